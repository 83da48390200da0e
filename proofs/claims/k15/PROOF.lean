import PyProof.Rows.All
import Wide.All
import OpenK.AllK
import Wide.FinOn
import HandS.ForMost
import HandS.Exc
import HandS.WordsExc
import HandS.Flow
import HandS.IsInst
import HandS.ExcOwn
import HandS.ExcIs
import HandS.ExcValue
import HandS.ExcField
import KE.KExcIs
import HandS.Nested
import HandS.EndTab
import KE.SortData
import KE.DataMinMax
import PyProof.TupleOfSeq
import HandS.TupLe
import HandS.Text
import HandS.Style
import HandS.TupAny
import HandS.Deep
import HandS.Zip
import HandS.Steps
import KE.SortCalls
import HandS.Conv
import HandS.More
import PyProof.ListStr
import HandS.Strs
import KE.KDictDisplayH
import PyProof.DictMoreH
import PyProof.Rows.TupDisplay
import HandS.TupLen
import HandS.DictTup
import KE.KIndexOf
import KE.DataFind
import HandS.Replace
import PyProof.TupleOfStr
import KE.GoesMore
import KE.GoesEnum
import HandS.ExcInit
import HandS.Small
import KE.KDictZip
import KE.KDictKeyed
import HandS.Zip0
import HandS.Dict
import HandS.NoneIn
import HandS.TupSets
import HandS.ReplaceLit
import HandS.Set
import HandS.SetFor
import HandS.EndBits
import PySem.Challenge.RW_eachgreatest_k15_whole_rows_one_behind_a
set_option Elab.async false
set_option linter.all false
set_option maxRecDepth 100000
set_option maxHeartbeats 4000000
namespace Sy
open PySem PySem.Spec PyProof.Rows L2

/-! ### values as data: tuples and frozen lists are told by their content, what may change by its address -/
inductive SV where
  | non | bl (b : Bool) | int (i : Int) | str (s : Str)
  | tup (l : List SV) | lst (l : List SV)
  | dK (ks : List Key) (vs : List SV) | dT (ks : List (List Key)) (vs : List SV)
  | own (a : Addr)
  | scr (l : List SV)
  | tuf (l : List SV)
  /-- a def of the row, as a value -/
  | fnv (f : Str)
  /-- a lambda: its object, its code object, what it captured -/
  | lam (a c : Addr) (cs : List SV) (ws : List V)
inductive SO where
  | lst (xs : List SV)
  | dK (ks : List Key) (vs : List SV) | dT (ks : List (List Key)) (vs : List SV)
  | ins (c : Str) (fs : List (Str × SV))
  /-- an exception that is kept: where, its class's name, its fields -/
  | exc (a : Addr) (c : Str) (w : List (Str × SV))
  /-- a dict that is walked: its object, what its values are in the heap -/
  | lk (od : Obj) (us : List V) (ks : List Key) (vs : List SV)
  /-- a list whose object is known: it does not change -/
  | fz (o : Obj) (l : List SV)
abbrev Sto := Addr → Option SO
def supd (S : Sto) (a : Addr) (o : SO) : Sto := fun b => if b = a then some o else S b
theorem supd_same {S : Sto} {a : Addr} {o : SO} : supd S a o a = some o := if_pos rfl
theorem supd_ne {S : Sto} {a b : Addr} {o : SO} (h : b ≠ a) : supd S a o b = S b := if_neg h
/-- a tuple whose object is known: it has no dict of its own -/
def TufAt (K : PySem.W.Frag) (F : Hp) (a : Addr) (vs : List V) : Prop :=
  (∃ o : Obj, F a = some (.frz o (.tup vs)) ∧ o.dict = none) ∨
    ∃ (o : Obj) (its : Array Value) (n : Nat), K.lookup a = some o ∧ o.cls = .type "tuple" ∧ o.dict = none ∧ o.data = .seq its n ∧ its.size ≤ sizeLine ∧ Vals vs its.toList
theorem TufAt.sqT {K : PySem.W.Frag} {F : Hp} {a : Addr} {vs : List V} (h : TufAt K F a vs) : SqT K F a vs := by
  rcases h with ⟨o, h, _⟩ | ⟨o, its, n, h1, h2, _, h3, h4, h5⟩
  · exact .inl (.inr ⟨o, h⟩)
  · exact .inr ⟨o, its, n, h1, h2, h3, h4, h5⟩
theorem TufAt.mono {K : PySem.W.Frag} {F F' : Hp} {a : Addr} {vs : List V} (e : ∀ a o, F a = some o → F' a = some o) (h : TufAt K F a vs) : TufAt K F' a vs := by
  rcases h with ⟨o, h, d⟩ | h
  · exact .inl ⟨o, e _ _ h, d⟩
  · exact .inr h
/-- the classes of refusals, and what each is of -/
def subX (e b : Str) : Bool := decide (e = b) || decide (b = "SetError") || decide (b = "ValueError")
def exF : List Str := ["word", "row"]
def exB : List Str := ["SetError", "NoRow", "NoAsk", "NoWeb", "NoName"]
/-- what is known of a class of refusals -/
structure ClsK (K : PySem.W.Frag) (c : Str) (C : Addr) : Prop where
  bx : PySem.W.subIn K (.ref C) (.type "BaseException") = some true
  ty : PySem.W.typeIn K (.ref C) = some (.type "type")
  exc : ExcC K C
  ex : ∀ b B, b ∈ exB → PySem.W.nsIn K mainGlobals b = some (some (.ref B)) → PySem.W.exmOne K (.ref C) (.ref B) = some (subX c b) ∧ PySem.W.kitOne K (.ref C) (.ref B) = some (subX c b)
  ve : PySem.W.kitOne K (.ref C) (.type "ValueError") = some true
  nf : ∀ f ∈ exF, PySem.W.findIn K (.ref C) f = some none
/-- the names of fields -/
def fldN : List Str := ["names", "goers", "rows_there", "rows_told", "many_fillings", "kind", "ties", "rows"]
/-- what is known of a class of the program -/
structure InsK (K : PySem.W.Frag) (c : Str) (C : Addr) : Prop where
  ns : PySem.W.nsIn K mainGlobals c = some (some (.ref C))
  cl : L2.Cls K C
  na : ∀ f ∈ fldN, NoAttr K C f
/-- the lambda's code object bears this name; the table of the def that makes it stands at P -/
def lamQ : Str := "all_rows" ++ ".<locals>." ++ "<lambda>"
def LamAt (K : PySem.W.Frag) (c P : Addr) : Prop := ∃ (fa : Addr) (oc : Value) (od : Option Addr) (fd : FuncData) (sl : Array (Option Value)) (e : Value) (dd : Option Addr) (vs : Array Value) (sl2 : Array (Option Value)),
  PySem.W.nsIn K mainGlobals "all_rows" = some (some (.ref fa)) ∧ K.lookup fa = some ⟨oc, od, .func fd, sl⟩ ∧ fd.code = .ref c ∧ K.lookup c = some ⟨e, dd, .fields vs, sl2⟩ ∧ vs[11]? = some (.ref P)
theorem LamAt.uniq {K : PySem.W.Frag} {c P c' P' : Addr} (h : LamAt K c P) (h' : LamAt K c' P') : c = c' ∧ P = P' := by
  obtain ⟨fa, oc, od, fd, sl, e, dd, vs, sl2, h1, h2, h3, h4, h5⟩ := h
  obtain ⟨fa', oc', od', fd', sl', e', dd', vs', sl2', g1, g2, g3, g4, g5⟩ := h'
  rw [h1] at g1
  cases g1
  rw [h2] at g2
  cases g2
  rw [h3] at g3
  cases g3
  rw [h4] at g4
  cases g4
  rw [h5] at g5
  cases g5
  exact ⟨rfl, rfl⟩
/-- an exception of the class cls, its own dict at d, at a -/
def ExC (cls : Value) (d : Option Addr) (a : Addr) : HO := .ext fun h => ∃ (oe : Obj) (vs : Array Value), h.get? a = some oe ∧ Zc cls d oe ∧ oe.data = .fields vs
section
variable (K : PySem.W.Frag) (F : Hp)
mutual
def RepV : SV → V → Prop
  | .non, v => v = .non
  | .bl b, v => v = .bl b
  | .int i, v => v = .int i
  | .str s, v => v = .str s
  | .tup l, v => ∃ a vs, v = .ref a ∧ F a = some (.tup vs) ∧ RepL l vs
  | .lst l, v => ∃ a vs, v = .ref a ∧ Rd F a (.lst vs) ∧ RepL l vs
  | .tuf l, v => ∃ a vs, v = .ref a ∧ TufAt K F a vs ∧ RepL l vs
  | .dK ks l, v => ∃ a vs, v = .ref a ∧ F a = some (.dK (ks.zip vs)) ∧ ks.length = vs.length ∧ RepL l vs
  | .dT ks l, v => ∃ a vs, v = .ref a ∧ F a = some (.dT (ks.zip vs)) ∧ ks.length = vs.length ∧ RepL l vs
  | .own a, v => v = .ref a
  | .fnv f, v => ∃ a, v = .ref a ∧ PySem.W.nsIn K mainGlobals f = some (some (.ref a))
  | .scr l, v => ∃ a vs, v = .ref a ∧ SqL K F a vs ∧ RepL l vs
  | .lam a c cs ws, v => v = .ref a ∧ F c = some (LamX.CodeO c lamQ) ∧ RepL cs ws
def RepL : List SV → List V → Prop
  | [], vs => vs = []
  | x :: l, vs => ∃ v r, vs = v :: r ∧ RepV x v ∧ RepL l r
end
def RepF : List (Str × SV) → List (Str × V) → Prop
  | [], vs => vs = []
  | p :: l, vs => ∃ v r, vs = (p.1, v) :: r ∧ RepV K F p.2 v ∧ RepF l r
/-- the own dict of an exception -/
def ExF (d : Option Addr) (w : List (Str × SV)) : Prop := (w = [] ∧ d = none) ∨ (w ≠ [] ∧ ∃ dd gs, d = some dd ∧ F dd = some (.xd gs) ∧ RepF K F w gs)
def RepO : SO → HO → Prop
  | .lst l, u => ∃ vs, u = .lst vs ∧ RepL K F l vs
  | .dK ks l, u => ∃ vs, u = .dK (ks.zip vs) ∧ ks.length = vs.length ∧ RepL K F l vs
  | .dT ks l, u => ∃ vs, u = .dT (ks.zip vs) ∧ ks.length = vs.length ∧ RepL K F l vs
  | .ins c fs, u => ∃ C dx gs, InsK K c C ∧ u = .ins C dx gs ∧ RepF K F fs gs
  | .exc a c w, u => ∃ C d, ClsK K c C ∧ u = ExC (.ref C) d a ∧ ExF K F d w
  | .lk od us ks l, u => u = .frz od (.dK (ks.zip us)) ∧ ks.length = us.length ∧ RepL K F l us
  | .fz o l, u => ∃ vs, u = .frz o (.lst vs) ∧ RepL K F l vs
end

section
variable {K : PySem.W.Frag} {F F' H : Hp}
theorem Same.rd {a : Addr} {u : HO} (e : Same F F') (h : Rd F a u) : Rd F' a u := by
  rcases h with h | ⟨o, h⟩
  · exact .inl (e _ _ h)
  · exact .inr ⟨o, e _ _ h⟩
theorem Same.sqT {a : Addr} {xs : List V} (e : Same F F') (h : SqT K F a xs) : SqT K F' a xs := by
  rcases h with h | h
  · exact .inl (Same.rd e h)
  · exact .inr h
theorem Same.sqL {a : Addr} {xs : List V} (e : Same F F') (h : SqL K F a xs) : SqL K F' a xs := by
  rcases h with h | h
  · exact .inl (Same.rd e h)
  · exact .inr h
mutual
theorem RepV.mono (e : Same F F') : ∀ (x : SV) (v : V), RepV K F x v → RepV K F' x v
  | .non, _, h => h
  | .bl _, _, h => h
  | .int _, _, h => h
  | .str _, _, h => h
  | .own _, _, h => h
  | .fnv _, _, h => h
  | .scr l, _, ⟨a, vs, h1, h2, h3⟩ => ⟨a, vs, h1, Same.sqL e h2, RepL.mono e l vs h3⟩
  | .lam a c cs ws, _, ⟨h1, h2, h3⟩ => ⟨h1, e _ _ h2, RepL.mono e cs ws h3⟩
  | .tup l, _, ⟨a, vs, h1, h2, h3⟩ => ⟨a, vs, h1, e _ _ h2, RepL.mono e l vs h3⟩
  | .lst l, _, ⟨a, vs, h1, h2, h3⟩ => ⟨a, vs, h1, Same.rd e h2, RepL.mono e l vs h3⟩
  | .tuf l, _, ⟨a, vs, h1, h2, h3⟩ => ⟨a, vs, h1, TufAt.mono e h2, RepL.mono e l vs h3⟩
  | .dK ks l, _, ⟨a, vs, h1, h2, h3, h4⟩ => ⟨a, vs, h1, e _ _ h2, h3, RepL.mono e l vs h4⟩
  | .dT ks l, _, ⟨a, vs, h1, h2, h3, h4⟩ => ⟨a, vs, h1, e _ _ h2, h3, RepL.mono e l vs h4⟩
theorem RepL.mono (e : Same F F') : ∀ (l : List SV) (vs : List V), RepL K F l vs → RepL K F' l vs
  | [], _, h => h
  | x :: l, _, ⟨v, r, h1, h2, h3⟩ => ⟨v, r, h1, RepV.mono e x v h2, RepL.mono e l r h3⟩
end
theorem RepF.mono (e : Same F F') : ∀ (l : List (Str × SV)) (vs : List (Str × V)), RepF K F l vs → RepF K F' l vs
  | [], _, h => h
  | p :: l, _, ⟨v, r, h1, h2, h3⟩ => ⟨v, r, h1, RepV.mono e p.2 v h2, RepF.mono e l r h3⟩
theorem ExF.mono (e : ∀ a o, F a = some o → F' a = some o) {d : Option Addr} {w : List (Str × SV)} (h : ExF K F d w) : ExF K F' d w := by
  rcases h with h | ⟨h1, dd, gs, h2, h3, h4⟩
  · exact .inl h
  · exact .inr ⟨h1, dd, gs, h2, e _ _ h3, RepF.mono e _ _ h4⟩
theorem RepO.mono (e : Same F F') : ∀ {o : SO} {u : HO}, RepO K F o u → RepO K F' o u
  | .lst _, _, ⟨vs, h1, h2⟩ => ⟨vs, h1, RepL.mono e _ _ h2⟩
  | .dK _ _, _, ⟨vs, h1, h2, h3⟩ => ⟨vs, h1, h2, RepL.mono e _ _ h3⟩
  | .dT _ _, _, ⟨vs, h1, h2, h3⟩ => ⟨vs, h1, h2, RepL.mono e _ _ h3⟩
  | .ins _ _, _, ⟨C, dx, gs, h0, h1, h2⟩ => ⟨C, dx, gs, h0, h1, RepF.mono e _ _ h2⟩
  | .exc _ _ _, _, ⟨C, d, h1, h2, h3⟩ => ⟨C, d, h1, h2, ExF.mono e h3⟩
  | .lk _ _ _ _, _, ⟨h1, h2, h3⟩ => ⟨h1, h2, RepL.mono e _ _ h3⟩
  | .fz _ _, _, ⟨vs, h1, h2⟩ => ⟨vs, h1, RepL.mono e _ _ h2⟩
theorem RepL.length : ∀ {l : List SV} {vs : List V}, RepL K F l vs → l.length = vs.length
  | [], _, h => by rw [show _ = ([] : List V) from h]; rfl
  | x :: l, _, ⟨v, r, h1, h2, h3⟩ => by rw [h1, List.length_cons, List.length_cons, RepL.length h3]
theorem RepL.get : ∀ {l : List SV} {vs : List V} {i : Nat} {x : SV}, RepL K F l vs → l[i]? = some x → ∃ v, vs[i]? = some v ∧ RepV K F x v
  | [], _, _, _, _, e => by simp at e
  | y :: l, _, 0, x, ⟨v, r, h1, h2, h3⟩, e => by
    have e' : y = x := by simpa using e
    subst e'
    exact ⟨v, by rw [h1]; rfl, h2⟩
  | y :: l, _, i + 1, x, ⟨v, r, h1, h2, h3⟩, e => by
    obtain ⟨u, q1, q2⟩ := RepL.get (i := i) h3 (by simpa using e)
    exact ⟨u, by rw [h1]; simpa using q1, q2⟩
theorem RepL.append : ∀ {l : List SV} {vs : List V} {m : List SV} {ws : List V}, RepL K F l vs → RepL K F m ws → RepL K F (l ++ m) (vs ++ ws)
  | [], _, _, _, h, g => by rw [show _ = ([] : List V) from h]; exact g
  | x :: l, _, _, _, ⟨v, r, h1, h2, h3⟩, g => ⟨v, r ++ _, by rw [h1]; rfl, h2, RepL.append h3 g⟩
theorem RepL.set : ∀ {l : List SV} {vs : List V} (i : Nat) {x : SV} {v : V}, RepL K F l vs → RepV K F x v → RepL K F (l.set i x) (vs.set i v)
  | [], _, _, _, _, h, _ => by rw [show _ = ([] : List V) from h]; exact rfl
  | y :: l, _, 0, x, v, ⟨u, r, h1, h2, h3⟩, g => ⟨v, r, by rw [h1]; rfl, g, h3⟩
  | y :: l, _, i + 1, x, v, ⟨u, r, h1, h2, h3⟩, g => ⟨u, r.set i v, by rw [h1]; rfl, h2, RepL.set i h3 g⟩
theorem RepL.take : ∀ {l : List SV} {vs : List V} (n : Nat), RepL K F l vs → RepL K F (l.take n) (vs.take n)
  | [], _, n, h => by rw [show _ = ([] : List V) from h, List.take_nil, List.take_nil]; exact rfl
  | y :: l, _, 0, _ => rfl
  | y :: l, _, n + 1, ⟨u, r, h1, h2, h3⟩ => ⟨u, r.take n, by rw [h1]; rfl, h2, RepL.take n h3⟩
theorem RepL.drop : ∀ {l : List SV} {vs : List V} (n : Nat), RepL K F l vs → RepL K F (l.drop n) (vs.drop n)
  | [], _, n, h => by rw [show _ = ([] : List V) from h, List.drop_nil, List.drop_nil]; exact rfl
  | y :: l, _, 0, h => h
  | y :: l, _, n + 1, ⟨u, r, h1, h2, h3⟩ => by rw [h1]; exact RepL.drop n h3
theorem RepL.single {x : SV} {v : V} (h : RepV K F x v) : RepL K F [x] [v] := ⟨v, [], rfl, h, rfl⟩
theorem RepL.reverse : ∀ {l : List SV} {vs : List V}, RepL K F l vs → RepL K F l.reverse vs.reverse
  | [], _, h => by rw [show _ = ([] : List V) from h]; exact rfl
  | x :: l, _, ⟨v, r, h1, h2, h3⟩ => by
    rw [h1, List.reverse_cons, List.reverse_cons]
    exact RepL.append (RepL.reverse h3) (RepL.single h2)
end
/-- not a tuple -/
def NT (o : HO) : Prop := ∀ vs, o ≠ .tup vs

/-- the table at P is apart; the code objects that it tells are the lambda's -/
def TabK (F M : Hp) (S : Sto) (H : Hp) (P : Addr) : Prop := F P = none ∧ M P = none ∧ S P = none ∧ ∃ ps : Array Value, H P = some (.tbl ps) ∧ TriplesOk ps.toList ∧
  ∀ (pos : Pos) (cv : Value), codeAmong pos ps.toList = some cv → ∃ c, cv = .ref c ∧ H c = some (LamX.CodeO c lamQ) ∧ M c = none ∧ S c = none
/-- nothing of the table or of the code objects is changed -/
theorem TabK.go {F M F' M' : Hp} {S S' : Sto} {H H' : Hp} {P : Addr} (h : TabK F M S H P) (e : ∀ a o, H a = some o → M a = none → S a = none → M' a = none ∧ S' a = none ∧ H' a = some o) (f : F P = none → M P = none → S P = none → (∃ ps, H P = some (.tbl ps)) → F' P = none) : TabK F' M' S' H' P := by
  obtain ⟨h1, h2, h3, ps, h4, h5, h6⟩ := h
  obtain ⟨e1, e2, e3⟩ := e P _ h4 h2 h3
  refine ⟨f h1 h2 h3 ⟨ps, h4⟩, e1, e2, ps, e3, h5, fun pos cv hc => ?_⟩
  obtain ⟨c, q1, q2, q3, q4⟩ := h6 pos cv hc
  obtain ⟨z1, z2, z3⟩ := e c _ q2 q3 q4
  exact ⟨c, q1, z3, z1, z2⟩

/-! ### the state: F what is frozen, M what is held apart, S what may change -/
structure Sim (K : PySem.W.Frag) (F M : Hp) (S : Sto) (H : Hp) : Prop where
  f : ∀ a o, F a = some o → H a = some o
  m : ∀ a o, M a = some o → H a = some o ∧ F a = none ∧ S a = none ∧ NT o
  s : ∀ a o, S a = some o → F a = none ∧ ∃ u, H a = some u ∧ RepO K F o u
  t : ∀ c P, LamAt K c P → TabK F M S H P
section
variable {K : PySem.W.Frag} {F F' M H : Hp} {S : Sto}
theorem Same.new {p : Addr} {o : HO} (h : H p = none) : Same H (upd H p o) := fun b x e => by
  rw [upd_ne (ne_of_none e h)]
  exact e
theorem Sim.freeF (q : Sim K F M S H) {p : Addr} (h : H p = none) : F p = none := by
  cases e : F p with
  | none => rfl
  | some o => rw [q.f p o e] at h; cases h
theorem Sim.freeM (q : Sim K F M S H) {p : Addr} (h : H p = none) : M p = none := by
  cases e : M p with
  | none => rfl
  | some o => rw [(q.m p o e).1] at h; cases h
theorem Sim.freeS (q : Sim K F M S H) {p : Addr} (h : H p = none) : S p = none := by
  cases e : S p with
  | none => rfl
  | some o =>
    obtain ⟨_, u, hu, _⟩ := q.s p o e
    rw [hu] at h; cases h
/-- a new frozen thing -/
theorem Sim.newF (q : Sim K F M S H) {p : Addr} {o : HO} (h : H p = none) : Sim K (upd F p o) M S (upd H p o) := by
  have s1 : Same F (upd F p o) := Same.new (q.freeF h)
  refine ⟨fun a u e => ?_, fun a u e => ?_, fun a u e => ?_, fun c P l => (q.t c P l).go (fun a o e h1 h2 => ⟨h1, h2, by rw [upd_ne (ne_of_none e h)]; exact e⟩) fun h1 _ _ ⟨ps, h2⟩ => by rw [upd_ne (ne_of_none h2 h)]; exact h1⟩
  · by_cases ha : a = p
    · subst ha; rw [upd_same] at e ⊢; exact e
    · rw [upd_ne ha] at e ⊢; exact q.f a u e
  · have ha : a ≠ p := fun z => by rw [z, q.freeM h] at e; cases e
    obtain ⟨h1, h2, h3, h4⟩ := q.m a u e
    exact ⟨by rw [upd_ne ha]; exact h1, by rw [upd_ne ha]; exact h2, h3, h4⟩
  · have ha : a ≠ p := fun z => by rw [z, q.freeS h] at e; cases e
    obtain ⟨h1, w, h2, h3⟩ := q.s a u e
    exact ⟨by rw [upd_ne ha]; exact h1, w, by rw [upd_ne ha]; exact h2, RepO.mono s1 h3⟩
/-- a new thing that may change -/
theorem Sim.newS (q : Sim K F M S H) {p : Addr} {o : SO} {u : HO} (h : H p = none) (r : RepO K F o u) : Sim K F M (supd S p o) (upd H p u) := by
  refine ⟨fun a w e => ?_, fun a w e => ?_, fun a w e => ?_, fun c P l => (q.t c P l).go (fun a o e h1 h2 => ⟨h1, by rw [supd_ne (ne_of_none e h)]; exact h2, by rw [upd_ne (ne_of_none e h)]; exact e⟩) fun h1 _ _ _ => h1⟩
  · have ha : a ≠ p := fun z => by rw [z, q.freeF h] at e; cases e
    rw [upd_ne ha]; exact q.f a w e
  · have ha : a ≠ p := fun z => by rw [z, q.freeM h] at e; cases e
    obtain ⟨h1, h2, h3, h4⟩ := q.m a w e
    exact ⟨by rw [upd_ne ha]; exact h1, h2, by rw [supd_ne ha]; exact h3, h4⟩
  · by_cases ha : a = p
    · subst ha
      rw [supd_same] at e
      cases e
      exact ⟨q.freeF h, u, upd_same, r⟩
    · rw [supd_ne ha] at e
      obtain ⟨h1, w', h2, h3⟩ := q.s a w e
      exact ⟨h1, w', by rw [upd_ne ha]; exact h2, h3⟩
/-- a thing changed -/
theorem Sim.set (q : Sim K F M S H) {p : Addr} {o o' : SO} {u : HO} (h : S p = some o) (r : RepO K F o' u) : Sim K F M (supd S p o') (upd H p u) := by
  have hF := (q.s p o h).1
  have np : ∀ {a}, S a = none → a ≠ p := fun h2 z => by rw [z, h] at h2; cases h2
  refine ⟨fun a w e => ?_, fun a w e => ?_, fun a w e => ?_, fun c P l => (q.t c P l).go (fun a o e h1 h2 => ⟨h1, by rw [supd_ne (np h2)]; exact h2, by rw [upd_ne (np h2)]; exact e⟩) fun h1 _ _ _ => h1⟩
  · have ha : a ≠ p := fun z => by rw [z, hF] at e; cases e
    rw [upd_ne ha]; exact q.f a w e
  · have ha : a ≠ p := fun z => by rw [z] at e; rw [(q.m p _ e).2.2.1] at h; cases h
    obtain ⟨h1, h2, h3, h4⟩ := q.m a w e
    exact ⟨by rw [upd_ne ha]; exact h1, h2, by rw [supd_ne ha]; exact h3, h4⟩
  · by_cases ha : a = p
    · subst ha
      rw [supd_same] at e
      cases e
      exact ⟨hF, u, upd_same, r⟩
    · rw [supd_ne ha] at e
      obtain ⟨h1, w', h2, h3⟩ := q.s a w e
      exact ⟨h1, w', by rw [upd_ne ha]; exact h2, h3⟩
/-- held apart: a new thing; it changes; it is let go to the frozen -/
theorem Sim.newM (q : Sim K F M S H) {p : Addr} {o : HO} (h : H p = none) (hn : NT o) : Sim K F (upd M p o) S (upd H p o) := by
  refine ⟨fun a w e => ?_, fun a w e => ?_, fun a w e => ?_, fun c P l => (q.t c P l).go (fun a o e h1 h2 => ⟨by rw [upd_ne (ne_of_none e h)]; exact h1, h2, by rw [upd_ne (ne_of_none e h)]; exact e⟩) fun h1 _ _ _ => h1⟩
  · have ha : a ≠ p := fun z => by rw [z, q.freeF h] at e; cases e
    rw [upd_ne ha]; exact q.f a w e
  · by_cases ha : a = p
    · subst ha
      rw [upd_same] at e ⊢
      cases e
      exact ⟨rfl, q.freeF h, q.freeS h, hn⟩
    · rw [upd_ne ha] at e
      obtain ⟨h1, h2, h3, h4⟩ := q.m a w e
      exact ⟨by rw [upd_ne ha]; exact h1, h2, h3, h4⟩
  · have ha : a ≠ p := fun z => by rw [z, q.freeS h] at e; cases e
    obtain ⟨h1, w', h2, h3⟩ := q.s a w e
    exact ⟨h1, w', by rw [upd_ne ha]; exact h2, h3⟩
theorem Sim.setM (q : Sim K F (upd M p o) S H) {o' : HO} (hn : NT o') : Sim K F (upd M p o') S (upd H p o') := by
  obtain ⟨hp, hF, hS, hN⟩ := q.m p o upd_same
  have np : ∀ {a}, (upd M p o) a = none → a ≠ p := fun h2 z => by rw [z, upd_same] at h2; cases h2
  refine ⟨fun a w e => ?_, fun a w e => ?_, fun a w e => ?_, fun c P l => (q.t c P l).go (fun a o e h1 h2 => ⟨by rw [upd_ne (np h1)]; rw [upd_ne (np h1)] at h1; exact h1, h2, by rw [upd_ne (np h1)]; exact e⟩) fun h1 _ _ _ => h1⟩
  · have ha : a ≠ p := fun z => by rw [z, hF] at e; cases e
    rw [upd_ne ha]; exact q.f a w e
  · by_cases ha : a = p
    · subst ha
      rw [upd_same] at e ⊢
      cases e
      exact ⟨rfl, hF, hS, hn⟩
    · rw [upd_ne ha] at e
      obtain ⟨h1, h2, h3, h4⟩ := q.m a w (by rw [upd_ne ha]; exact e)
      exact ⟨by rw [upd_ne ha]; exact h1, h2, h3, h4⟩
  · have ha : a ≠ p := fun z => by rw [z, hS] at e; cases e
    obtain ⟨h1, w', h2, h3⟩ := q.s a w e
    exact ⟨h1, w', by rw [upd_ne ha]; exact h2, h3⟩
theorem Sim.freezeM {p : Addr} {o : HO} (q : Sim K F (upd M p o) S H) (hM : M p = none) : Same F (upd F p o) ∧ Sim K (upd F p o) M S H := by
  obtain ⟨hp, hF, hS, hN⟩ := q.m p o upd_same
  have s1 : Same F (upd F p o) := Same.new hF
  have np : ∀ {a}, (upd M p o) a = none → a ≠ p := fun h2 z => by rw [z, upd_same] at h2; cases h2
  refine ⟨s1, fun a u e => ?_, fun a w e => ?_, fun a w e => ?_, fun c P l => (q.t c P l).go (fun a o e h1 h2 => ⟨by rw [upd_ne (np h1)] at h1; exact h1, h2, e⟩) fun h1 h2 _ _ => by rw [upd_ne (np h2)]; exact h1⟩
  · by_cases ha : a = p
    · subst ha; rw [upd_same] at e; cases e; exact hp
    · rw [upd_ne ha] at e; exact q.f a u e
  · have ha : a ≠ p := fun z => by rw [z, hM] at e; cases e
    obtain ⟨h1, h2, h3, h4⟩ := q.m a w (by rw [upd_ne ha]; exact e)
    exact ⟨h1, by rw [upd_ne ha]; exact h2, h3, h4⟩
  · have ha : a ≠ p := fun z => by rw [z, hS] at e; cases e
    obtain ⟨h1, w', h2, h3⟩ := q.s a w e
    exact ⟨by rw [upd_ne ha]; exact h1, w', h2, RepO.mono s1 h3⟩
/-- let go to those that may change -/
theorem Sim.ownM {p : Addr} {o : HO} {x : SO} (q : Sim K F (upd M p o) S H) (hM : M p = none) (r : RepO K F x o) : Sim K F M (supd S p x) H := by
  obtain ⟨hp, hF, hS, hN⟩ := q.m p o upd_same
  have np : ∀ {a}, (upd M p o) a = none → a ≠ p := fun h2 z => by rw [z, upd_same] at h2; cases h2
  refine ⟨q.f, fun a w e => ?_, fun a w e => ?_, fun c P l => (q.t c P l).go (fun a o e h1 h2 => ⟨by rw [upd_ne (np h1)] at h1; exact h1, by rw [supd_ne (np h1)]; exact h2, e⟩) fun h1 _ _ _ => h1⟩
  · have ha : a ≠ p := fun z => by rw [z, hM] at e; cases e
    obtain ⟨h1, h2, h3, h4⟩ := q.m a w (by rw [upd_ne ha]; exact e)
    exact ⟨h1, h2, by rw [supd_ne ha]; exact h3, h4⟩
  · by_cases ha : a = p
    · subst ha
      rw [supd_same] at e
      cases e
      exact ⟨hF, o, hp, r⟩
    · rw [supd_ne ha] at e
      exact q.s a w e

/-! ### things that may change let go: they are frozen -/
def Sub (S2 S : Sto) : Prop := ∀ a o, S2 a = some o → S a = some o
open Classical in
noncomputable def frzF (F H : Hp) (S S2 : Sto) : Hp := fun a => match F a with
  | some o => some o
  | none => if (∃ o, S a = some o) ∧ S2 a = none then H a else none
theorem frzF_same {S2 : Sto} : Same F (frzF F H S S2) := fun a o e => by
  unfold frzF
  rw [e]
theorem frzF_at {S2 : Sto} {a : Addr} {o : SO} (hF : F a = none) (h : S a = some o) (h2 : S2 a = none) : frzF F H S S2 a = H a := by
  unfold frzF
  rw [hF]
  exact if_pos ⟨⟨o, h⟩, h2⟩
theorem Sim.freeze {S2 : Sto} (q : Sim K F M S H) (hs : Sub S2 S) : Sim K (frzF F H S S2) M S2 H := by
  have sn : ∀ {a}, S a = none → S2 a = none := fun {a} h => by
    cases z : S2 a with
    | none => rfl
    | some u => rw [hs a u z] at h; cases h
  refine ⟨fun a o e => ?_, fun a o e => ?_, fun a o e => ?_, fun c P l => (q.t c P l).go (fun a o e h1 h2 => ⟨h1, sn h2, e⟩) fun h1 _ h2 _ => ?_⟩
  rotate_left 3
  · unfold frzF
    rw [h1]
    exact if_neg fun z => by
      obtain ⟨⟨u, hu⟩, _⟩ := z
      rw [h2] at hu; cases hu
  · unfold frzF at e
    split at e
    · rename_i u hu
      cases e
      exact q.f a _ hu
    · split at e
      · exact e
      · cases e
  · obtain ⟨h1, h2, h3, h4⟩ := q.m a o e
    refine ⟨h1, ?_, ?_, h4⟩
    · unfold frzF
      rw [h2]
      exact if_neg fun z => by
        obtain ⟨⟨u, hu⟩, _⟩ := z
        rw [h3] at hu; cases hu
    · cases z : S2 a with
      | none => rfl
      | some u => rw [hs a u z] at h3; cases h3
  · obtain ⟨h1, u, h2, h3⟩ := q.s a o (hs a o e)
    refine ⟨?_, u, h2, RepO.mono frzF_same h3⟩
    unfold frzF
    rw [h1]
    exact if_neg fun z => by
      rw [z.2] at e; cases e
end
/-- v' is v, what was let go told by its content -/
inductive Frz (S S2 : Sto) : SV → SV → Prop
  | same (v : SV) : Frz S S2 v v
  | lst {p : Addr} {xs : List SV} (h : S p = some (.lst xs)) (h2 : S2 p = none) : Frz S S2 (.own p) (.lst xs)
  | dK {p : Addr} {ks : List Key} {vs : List SV} (h : S p = some (.dK ks vs)) (h2 : S2 p = none) : Frz S S2 (.own p) (.dK ks vs)
  | dT {p : Addr} {ks : List (List Key)} {vs : List SV} (h : S p = some (.dT ks vs)) (h2 : S2 p = none) : Frz S S2 (.own p) (.dT ks vs)
  /-- a dict of lists, all let go -/
  | dKL {p : Addr} {ks : List Key} {as : List (Addr × List SV)} (h : S p = some (.dK ks (as.map fun a => .own a.1))) (h2 : S2 p = none) (hl : ∀ a ∈ as, S a.1 = some (.lst a.2) ∧ S2 a.1 = none) : Frz S S2 (.own p) (.dK ks (as.map fun a => .lst a.2))
  /-- a list of lists, all let go -/
  | lstL {p : Addr} {as : List (Addr × List SV)} (h : S p = some (.lst (as.map fun a => .own a.1))) (h2 : S2 p = none) (hl : ∀ a ∈ as, S a.1 = some (.lst a.2) ∧ S2 a.1 = none) : Frz S S2 (.own p) (.lst (as.map fun a => .lst a.2))
theorem Sim.frzL {K : PySem.W.Frag} {F M H : Hp} {S S2 : Sto} (q : Sim K F M S H) : ∀ {as : List (Addr × List SV)} {vs : List V}, (∀ a ∈ as, S a.1 = some (.lst a.2) ∧ S2 a.1 = none) → RepL K F (as.map fun a => .own a.1) vs → RepL K (frzF F H S S2) (as.map fun a => .lst a.2) vs := by
  intro as
  induction as with
  | nil => intro vs _ h; exact h
  | cons a as ih =>
    intro vs ha hl
    obtain ⟨v, r, e1, e2, e3⟩ := hl
    obtain ⟨a1, a2⟩ := ha a List.mem_cons_self
    obtain ⟨g1, w, g2, ws, rfl, g3⟩ := q.s _ _ a1
    exact ⟨v, r, e1, ⟨a.1, ws, e2, .inl ((frzF_at g1 a1 a2).trans g2), RepL.mono frzF_same _ _ g3⟩, ih (fun b hb => ha b (List.mem_cons_of_mem _ hb)) e3⟩
theorem Frz.rep {K : PySem.W.Frag} {F M H : Hp} {S S2 : Sto} {x y : SV} {v : V} (f : Frz S S2 x y) (q : Sim K F M S H) (r : RepV K F x v) : RepV K (frzF F H S S2) y v := by
  cases f with
  | same _ => exact RepV.mono frzF_same _ _ r
  | lst h h2 =>
    obtain ⟨h1, u, hu, vs, rfl, hl⟩ := q.s _ _ h
    exact ⟨_, vs, r, .inl ((frzF_at h1 h h2).trans hu), RepL.mono frzF_same _ _ hl⟩
  | dK h h2 =>
    obtain ⟨h1, u, hu, vs, rfl, hz, hl⟩ := q.s _ _ h
    exact ⟨_, vs, r, (frzF_at h1 h h2).trans hu, hz, RepL.mono frzF_same _ _ hl⟩
  | dT h h2 =>
    obtain ⟨h1, u, hu, vs, rfl, hz, hl⟩ := q.s _ _ h
    exact ⟨_, vs, r, (frzF_at h1 h h2).trans hu, hz, RepL.mono frzF_same _ _ hl⟩
  | @dKL p ks as h h2 ha =>
    obtain ⟨h1, u, hu, vs, rfl, hz, hl⟩ := q.s _ _ h
    exact ⟨_, vs, r, (frzF_at h1 h h2).trans hu, hz, q.frzL ha hl⟩
  | @lstL p as h h2 ha =>
    obtain ⟨h1, u, hu, vs, rfl, hl⟩ := q.s _ _ h
    exact ⟨_, vs, r, .inl ((frzF_at h1 h h2).trans hu), q.frzL ha hl⟩
end Sy

namespace Sy
open PySem PySem.Spec PyProof.Rows L2

/-! ### the small tree of a def's body -/
inductive Bi where
  | len | sorted | tuple | list | mn | mx | sum | all | any | abs | int | str | dict | isinst
  deriving DecidableEq
inductive Ty where
  | tuple | list | str | int | bool
  deriving DecidableEq
inductive Mt where
  | append | pop | extend | index | join | split | clear | count | insert | popAt | indexT | remove | indexS
  deriving DecidableEq
inductive ItK where
  | seq | rng1 | rng2 | enum | zip
  deriving DecidableEq
/-- targets: a name, some names -/
inductive MT where
  | one (i : Nat) (x : Str)
  | many (l : List (Nat × Str))
mutual
inductive ME where
  | var (i : Nat) (x : Str)
  | cst (c : Const)
  | glob (x : Str)
  | tup (as : MA)
  | lst (own : Bool) (as : MA)
  | bin (o : Operator) (own : Bool) (a b : ME)
  | cmp (o : CmpOp) (a b : ME)
  | neg (a : ME)
  | and (a b : ME)
  | or (a b : ME)
  | not (a : ME)
  | idx (a i : ME)
  | sl (own : Bool) (a : ME) (lo hi : MO)
  | rev (own : Bool) (a : ME)
  | call (f : Str) (as : MA)
  | bi (f : Bi) (own : Bool) (as : MA)
  | mt (m : Mt) (own : Bool) (a : ME) (as : MA)
  | lc (own : Bool) (ow : List (Str × Nat)) (elt : ME) (t : MT) (k : ItK) (ia : MA) (c : MO)
  | dnew (tk : Bool)
  /-- a call of a name that holds a lambda -/
  | callv (i : Nat) (x : Str) (as : MA)
  /-- len(set(a)), sorted(set(a)), a a list or tuple of tuples of texts -/
  | setT (ln own : Bool) (a : ME)
inductive MA where
  | nil
  | cons (e : ME) (as : MA)
inductive MO where
  | none
  | some (e : ME)
end
/-- a call that may raise -/
inductive MX where
  | call (f : Str) (as : MA)
  /-- (x, b); f(a, b, x), which may raise, too; f(x), which raises nothing; x.split(w); [x] -/
  | tup2 (x : MX) (b : ME)
  | callL (f : Str) (a b : ME) (x : MX)
  | pcall (f : Str) (x : MX)
  | spl (own : Bool) (x : MX) (w : Str)
  | one (own : Bool) (x : MX)
/-- the body of a try: one such call, behind some ifs -/
inductive MY where
  | ex (x : MX)
  | asg (t : MT) (x : MX)
  | ifs (c : ME) (a b : MY)
/-- what is done where one is caught: y = e; if isinstance(e, A) and isinstance(e, B) and not isinstance(e, (Cs)): y = w -/
inductive MZ where
  | keep (l : Nat) (y : Str)
  | test (A B : Str) (Cs : List Str) (l : Nat) (y w : Str)
mutual
inductive MS where
  | asg (t : MT) (e : ME)
  | setIx (a i e : ME)
  | ex (e : ME)
  | ret (e : ME)
  | retN
  | ifs (c : ME) (a b : MB)
  | for_ (t : MT) (k : ItK) (ia : MA) (body : MB)
  | pass
  | brk
  | cont
  | frz (i : Nat)
  | never
  /-- x = f(a, b, c, lambda ps: body): N the lambda's names, its parameters ahead, then what it captures, which stands in the slots js -/
  | asgL (i : Nat) (x f : Str) (a b c : ME) (N ps : List Str) (js : List Nat) (body : ME)
inductive MB where
  | nil
  | cons (s : MS) (b : MB)
end

/-! ### what is wanted -/
abbrev SK := SV → Sto → Prop
abbrev SKs := List SV → Sto → Prop
abbrev Ro := List (Option SV)
abbrev SE := Ro → Sto → SK → Prop
abbrev SEs := Ro → Sto → SKs → Prop
abbrev Cal := Str → List SV → Sto → SK → Prop
/-- what is raised: the class's name, its fields -/
structure Ex where
  c : Str
  w : List (Str × SV)
abbrev XS := Ex → Sto → Prop
def noX : XS := fun _ _ => False
/-- the calls that let nothing out, those that may, and what is wanted where the body raises -/
structure Cls where
  c : Cal
  x : Str → List SV → Sto → SK → XS → Prop
  ex : XS
  /-- the level below; the defs that there are -/
  lv : Nat
  fs : Str → Prop
  /-- a call with a lambda: its object, its code object, what it captured, its meaning -/
  l : Str → SV → (Cal → List SV → Sto → SK → Prop) → List SV → Sto → SK → Prop
/-- a new list -/
def newL (own : Bool) (xs : List SV) (S : Sto) (k : SK) : Prop := xs.length ≤ sizeLine ∧ if own = true then ∀ p, S p = none → k (.own p) (supd S p (.lst xs)) else k (.lst xs) S
/-- the items of a list -/
def items (S : Sto) : SV → Option (List SV)
  | .lst l => some l
  | .own a => match S a with
    | some (.lst l) => some l
    | some (.fz _ l) => some l
    | _ => none
  | _ => none
/-- the items of a list or tuple -/
def seqOf (S : Sto) : SV → Option (List SV)
  | .tup l => some l
  | .tuf l => some l
  | .scr l => some l
  | x => items S x
def keyOf : SV → Option Key
  | .int i => some (.inl i)
  | .str s => some (.inr s)
  | _ => none
def keysOf : List SV → Option (List Key)
  | [] => some []
  | x :: l => (keyOf x).bind fun k => (keysOf l).map fun r => k :: r
/-! data, for == -/
mutual
def toD : SV → Option PyData
  | .non => some .none
  | .bl b => some (.bool b)
  | .int i => some (.int i)
  | .str s => some (.str s)
  | .tup l => (toDs l).map .tuple
  | .tuf l => (toDs l).map .tuple
  | .lst l => (toDs l).map .list
  | .dK _ _ => none
  | .dT _ _ => none
  | .own _ => none
  | .scr _ => none
  | .fnv _ => none
  | .lam _ _ _ _ => none
def toDs : List SV → Option (List PyData)
  | [] => some []
  | x :: l => (toD x).bind fun d => (toDs l).map fun r => d :: r
end
def toDS (S : Sto) (x : SV) : Option PyData := match x with
  | .own a => match S a with
    | some (.lst l) => (toDs l).map .list
    | _ => none
  | _ => toD x
/-- .. a tuple of two lists that may change -/
def toDT (S : Sto) (x : SV) : Option PyData := match x with
  | .tup [a, b] => (match toDS S x with
    | some _ => none
    | none => (toDS S a).bind fun d => (toDS S b).map fun e => .tuple [d, e])
  | _ => none
def eqS (S : Sto) (x y : SV) (k : Bool → Prop) : Prop := ∃ d e, (toDS S x = some d ∨ toDT S x = some d) ∧ (toDS S y = some e ∨ toDT S y = some e) ∧ SeqAt.shaped d = true ∧ SeqAt.shaped e = true ∧ k (d.eqv e)
/-- x in xs -/
def inS (x : SV) (xs : List SV) (k : Bool → Prop) : Prop := ∃ d ds, toD x = some d ∧ toDs xs = some ds ∧ SeqAt.shaped d = true ∧ SeqAt.shaped (.list ds) = true ∧ k (ds.any fun z => PyData.eqv z d)
/-- a part of a list -/
def cutL {α : Type} (xs : List α) (lo hi : Option Int) : List α := List.take (HT.sIx xs.length xs.length hi - HT.sIx xs.length 0 lo) (List.drop (HT.sIx xs.length 0 lo) xs)

def tupOf : SV → Option (List SV)
  | .tup l => some l
  | .tuf l => some l
  | _ => none
def opAdd (own : Bool) (x y : SV) (S : Sto) (k : SK) : Prop := match x, y with
  | .int i, .int j => k (.int (i + j)) S
  | .str a, .str b => a.length + b.length ≤ sizeLine ∧ k (.str (a ++ b)) S
  | .tup a, .tup b => a.length + b.length ≤ sizeLine ∧ k (.tup (a ++ b)) S
  | x, y => if (tupOf x).isSome = true then ∃ a b, tupOf x = some a ∧ tupOf y = some b ∧ a.length + b.length ≤ sizeLine ∧ k (.tup (a ++ b)) S ∧ (b = [] → k x S) ∧ (a = [] → k y S) else ∃ a b, items S x = some a ∧ items S y = some b ∧ newL own (a ++ b) S k
/-- a text, again and again -/
def repS (w : Str) (n : Nat) : Str := ⟨(List.replicate n w.cps.toList).flatten.toArray⟩
def opMul (own : Bool) (x y : SV) (S : Sto) (k : SK) : Prop := match x, y with
  | .int i, .int j => CMul i j ∧ k (.int (i * j)) S
  | .own p, .int j => ∃ l, S p = some (.lst l) ∧ 0 ≤ j ∧ j ≤ 1000 ∧ newL own (List.replicate j.toNat l).flatten S k
  | .lst l, .int j => 0 ≤ j ∧ j ≤ 1000 ∧ newL own (List.replicate j.toNat l).flatten S k
  | .str w, .int j => 0 ≤ j ∧ j ≤ 1000 ∧ w.length ≤ 1000 ∧ k (.str (repS w j.toNat)) S
  | _, _ => False
/-- an operator on two whole numbers -/
def opI (C : Int → Int → Prop) (g : Int → Int → Int) (x y : SV) (S : Sto) (k : SK) : Prop := match x, y with
  | .int i, .int j => C i j ∧ k (.int (g i j)) S
  | _, _ => False
def binS (o : Operator) (own : Bool) : SV → SV → Sto → SK → Prop := match o with
  | .Add => opAdd own
  | .Sub => opI (fun _ _ => True) fun i j => i - j
  | .Mult => opMul own
  | .FloorDiv => opI CDivN fun i j => i.fdiv j
  | .Mod => opI (fun _ j => j ≠ 0) fun i j => i.fmod j
  | .Pow => opI CPow fun i j => i ^ j.toNat
  | .LShift => opI CPow fun i j => i * 2 ^ j.toNat
  | .RShift => opI (fun _ j => 0 ≤ j) fun i j => i / 2 ^ j.toNat
  | .BitAnd => opI (fun _ _ => True) Builtin.bitAnd
  | .BitOr => opI (fun _ _ => True) Builtin.bitOr
  | .BitXor => opI (fun _ _ => True) Builtin.bitXor
  | _ => fun _ _ _ _ => False
def augS (o : Operator) : SV → SV → Sto → SK → Prop := match o with
  | .Add => opI (fun _ _ => True) fun i j => i + j
  | .Sub => opI (fun _ _ => True) fun i j => i - j
  | .Mult => opI CMul fun i j => i * j
  | .BitAnd => opI (fun _ _ => True) Builtin.bitAnd
  | .BitOr => opI (fun _ _ => True) Builtin.bitOr
  | _ => fun _ _ _ _ => False
def strL : List SV → Option (List Str)
  | [] => some []
  | .str s :: l => (strL l).map fun r => s :: r
  | _ => none
abbrev wks (l : List Str) : List (List Nat) := l.map fun a => a.cps.toList
def ordS (f : Int → Int → Bool) (g : List Nat → List Nat → Bool) (t : List (List Nat) → List (List Nat) → Bool) (x y : SV) (S : Sto) (k : SK) : Prop := match x, y with
  | .int i, .int j => k (.bl (f i j)) S
  | .str a, .str b => k (.bl (g a.cps.toList b.cps.toList)) S
  | x, y => ∃ p q a b, tupOf x = some p ∧ strL p = some a ∧ tupOf y = some q ∧ strL q = some b ∧ k (.bl (t (wks a) (wks b))) S
/-! dicts -/
def tKey : SV → Option (List Key)
  | .tup l => keysOf l
  | _ => none
def keysT : List SV → Option (List (List Key))
  | [] => some []
  | x :: l => (tKey x).bind fun k => (keysT l).map fun r => k :: r
def dicS (S : Sto) : SV → Option SO
  | .dK ks vs => some (.dK ks vs)
  | .dT ks vs => some (.dT ks vs)
  | .own a => match S a with
    | some (.dK ks vs) => some (.dK ks vs)
    | some (.dT ks vs) => some (.dT ks vs)
    | some (.lk _ _ ks vs) => some (.dK ks vs)
    | _ => none
  | _ => none
/-- a dict that may be changed now -/
def dicW (S : Sto) (a : Addr) : Option SO := match S a with
  | some (.dK ks vs) => some (.dK ks vs)
  | some (.dT ks vs) => some (.dT ks vs)
  | _ => none
def getX {κ : Type} [DecidableEq κ] : List κ → List SV → κ → Option SV
  | a :: ks, x :: l, k => if a = k then some x else getX ks l k
  | _, _, _ => none
def putX {κ : Type} [DecidableEq κ] (ks : List κ) (l : List SV) (k : κ) (v : SV) : List κ × List SV :=
  if k ∈ ks then (ks, List.zipWith (fun a x => if a = k then v else x) ks l) else (ks ++ [k], l ++ [v])
/-- what stands at a key -/
def getD : SO → SV → Option (Option SV)
  | .dK ks l, y => (keyOf y).map fun k => getX ks l k
  | .dT ks l, y => (tKey y).map fun k => getX ks l k
  | _, _ => none
def putD : SO → SV → SV → Option SO
  | .dK ks l, y, v => (keyOf y).map fun k => .dK (putX ks l k v).1 (putX ks l k v).2
  | .dT ks l, y, v => (tKey y).map fun k => .dT (putX ks l k v).1 (putX ks l k v).2
  | _, _, _ => none
/-- a field stored -/
def putFS (f : Str) (v : SV) : List (Str × SV) → List (Str × SV)
  | [] => [(f, v)]
  | (g, x) :: r => if g = f then (g, v) :: r else (g, x) :: putFS f v r
def lenD : SO → Nat
  | .dK ks _ => ks.length
  | .dT ks _ => ks.length
  | _ => 0
def inK (neg : Bool) (x y : SV) (S : Sto) (k : SK) : Prop := match y with
  | .str z => ∃ c, x = .str ⟨#[c]⟩ ∧ k (.bl (xor neg (decide (c ∈ z.cps.toList)))) S
  | y => match dicS S y with
    | some d => ∃ o, getD d x = some o ∧ k (.bl (xor neg o.isSome)) S
    | none => ∃ l, seqOf S y = some l ∧ inS x l fun b => k (.bl (xor neg b)) S
def isN : SV → Bool
  | .non => true
  | _ => false
def cmpS (o : CmpOp) : SV → SV → Sto → SK → Prop := match o with
  | .Is => fun x y S k => match y with
    | .bl b => ∃ a, x = .bl a ∧ k (.bl (decide (a = b))) S
    | y => y = .non ∧ k (.bl (isN x)) S
  | .IsNot => fun x y S k => match y with
    | .bl b => ∃ a, x = .bl a ∧ k (.bl !(decide (a = b))) S
    | y => y = .non ∧ k (.bl !(isN x)) S
  | .Eq => fun x y S k => eqS S x y fun b => k (.bl b) S
  | .NotEq => fun x y S k => eqS S x y fun b => k (.bl !b) S
  | .Lt => ordS (fun i j => decide (i < j)) (fun a b => decide (a < b)) fun a b => decide (a < b)
  | .LtE => ordS (fun i j => decide (i ≤ j)) (fun a b => decide (a ≤ b)) fun a b => decide (a ≤ b)
  | .Gt => ordS (fun i j => decide (j < i)) (fun a b => decide (b < a)) fun a b => decide (b < a)
  | .GtE => ordS (fun i j => decide (j ≤ i)) (fun a b => decide (b ≤ a)) fun a b => decide (b ≤ a)
  | .In => inK false
  | .NotIn => inK true
def idxS (x y : SV) (S : Sto) (k : SK) : Prop := match x, y with
  | .str w, .int i => w.length ≤ sizeLine ∧ ∃ c, atI w.cps.toList i = some c ∧ k (.str ⟨#[c]⟩) S
  | x, y => match dicS S x with
    | some d => ∃ v, getD d y = some (some v) ∧ k v S
    | none => ∃ i l v, y = .int i ∧ seqOf S x = some l ∧ atI l i = some v ∧ k v S
def slS (own : Bool) (x : SV) (lo hi : Option Int) (S : Sto) (k : SK) : Prop := match x with
  | .str w => w.length ≤ sizeLine ∧ k (.str (cutS w lo hi)) S
  | .tup l => k (.tup (cutL l lo hi)) S
  | .tuf l => k (.tup (cutL l lo hi)) S ∧ (cutL l lo hi = l → k (.tuf l) S)
  | .scr l => newL own (cutL l lo hi) S k
  | x => ∃ l, items S x = some l ∧ newL own (cutL l lo hi) S k
def lenS (x : SV) (S : Sto) (k : SK) : Prop := match x with
  | .str w => w.length ≤ sizeLine ∧ k (.int w.length) S
  | x => ∃ l, seqOf S x = some l ∧ k (.int l.length) S
def sumI : List SV → Option Int
  | [] => some 0
  | .int i :: l => (sumI l).map fun r => i + r
  | _ => none
def allB : List SV → Option (List Bool)
  | [] => some []
  | .bl b :: l => (allB l).map fun r => b :: r
  | _ => none
def r1 (r : SV → Sto → SK → Prop) : List SV → Sto → SK → Prop
  | [x] => r x
  | _ => fun _ _ => False
def r2 (r : SV → SV → Sto → SK → Prop) : List SV → Sto → SK → Prop
  | [x, y] => r x y
  | _ => fun _ _ => False
def keySV : Key → SV
  | .inl i => .int i
  | .inr s => .str s
/-- what is walked of a thing: the items of a list or tuple, the keys of a dict -/
def srcOf (S : Sto) (x : SV) : Option (List SV) := match dicS S x with
  | some (.dK ks _) => some (ks.map keySV)
  | some (.dT ks _) => some (ks.map fun r => SV.tup (r.map keySV))
  | _ => seqOf S x
/-- without f -/
def wo (S : Sto) (f : Addr) : Sto := fun a => if a = f then none else S a
theorem wo_same {S : Sto} {f : Addr} : wo S f f = none := if_pos rfl
theorem wo_ne {S : Sto} {f a : Addr} (h : a ≠ f) : wo S f a = S a := if_neg h
def tupK (r : List Key) : SV := .tup (r.map keySV)
def listS (own : Bool) (x : SV) (S : Sto) (k : SK) : Prop := match x with
  | .str w => w.length ≤ sizeLine ∧ newL own (w.cps.toList.map fun c => .str ⟨#[c]⟩) S k
  | x => ∃ l, srcOf S x = some l ∧ newL own l S k
def tupleS (own : Bool) (x : SV) (S : Sto) (k : SK) : Prop := match x with
  | .tup l => k (.tup l) S
  | .tuf l => k (.tuf l) S
  | .str w => w.length ≤ sizeLine ∧ k (if own = true then .tup (w.cps.toList.map fun c => .str ⟨#[c]⟩) else .tuf (w.cps.toList.map fun c => .str ⟨#[c]⟩)) S
  | x => ∃ l, items S x = some l ∧ k (if own = true then .tup l else .tuf l) S
def mnS (x y : SV) (S : Sto) (k : SK) : Prop := match x, y with
  | .str a, .str b => k (.str (if b.cps.toList < a.cps.toList then b else a)) S
  | .int i, .int j => k (.int (if j < i then j else i)) S
  | _, _ => False
def mxS (x y : SV) (S : Sto) (k : SK) : Prop := match x, y with
  | .str a, .str b => k (.str (if a.cps.toList < b.cps.toList then b else a)) S
  | .int i, .int j => k (.int (if j > i then j else i)) S
  | _, _ => False
def mnL (x : SV) (S : Sto) (k : SK) : Prop := ∃ l d0 dr, items S x = some l ∧ toDs l = some (d0 :: dr) ∧ PySem.W.AlikeAll (d0 :: dr) ∧ SeqAt.shaped (.list (d0 :: dr)) = true ∧ PyData.depthAll (d0 :: dr) ≤ 62 ∧ ∀ (i : Nat) v, l[i]? = some v → toD v = some (PySem.W.minD d0 dr) → k v S
def mnA : List SV → Sto → SK → Prop
  | [x] => mnL x
  | [x, y] => mnS x y
  | _ => fun _ _ => False
def mxL (x : SV) (S : Sto) (k : SK) : Prop := ∃ l d0 dr, items S x = some l ∧ toDs l = some (d0 :: dr) ∧ PySem.W.AlikeAll (d0 :: dr) ∧ SeqAt.shaped (.list (d0 :: dr)) = true ∧ PyData.depthAll (d0 :: dr) ≤ 62 ∧ ∀ (i : Nat) v, l[i]? = some v → toD v = some (PySem.W.maxD d0 dr) → k v S
def mxA : List SV → Sto → SK → Prop
  | [x] => mxL x
  | [x, y] => mxS x y
  | _ => fun _ _ => False
def absS (x : SV) (S : Sto) (k : SK) : Prop := match x with
  | .int i => k (.int (if i < 0 then -i else i)) S
  | _ => False
def intS (x : SV) (S : Sto) (k : SK) : Prop := match x with
  | .int i => k (.int i) S
  | .bl b => k (.int (if b = true then 1 else 0)) S
  | _ => False
def sumS (x : SV) (S : Sto) (k : SK) : Prop := ∃ l n, items S x = some l ∧ sumI l = some n ∧ k (.int n) S
def allS (x : SV) (S : Sto) (k : SK) : Prop := ∃ l bs, items S x = some l ∧ allB l = some bs ∧ k (.bl (bs.all id)) S
def anyS (x : SV) (S : Sto) (k : SK) : Prop := ∃ l bs, items S x = some l ∧ allB l = some bs ∧ k (.bl (bs.any id)) S
/-- a value as data, for its order -/
def datE (x : SV) : PyData := (toD x).getD .none
def srtL (l : List SV) : List SV := l.mergeSort (PySem.W.dataLe false datE)
/-- what can be sorted: such data, or one thing at most -/
def SrtOk (ds : List PyData) : Prop := PySem.W.Sortable ds ∨ (ds.length ≤ 1 ∧ ∀ d ∈ ds, d ≠ .none) ∨ ∀ d ∈ ds, ∃ xs, d = .tuple xs
def sortedS (own : Bool) (x : SV) (S : Sto) (k : SK) : Prop := ∃ l ds, srcOf S x = some l ∧ toDs l = some ds ∧ PySem.W.AllAlike ds ∧ SrtOk ds ∧ (∀ d ∈ ds, d.depth ≤ 8) ∧ newL own (srtL l) S k
def strS (x : SV) (S : Sto) (k : SK) : Prop := match x with
  | .int i => i.natAbs < 2 ^ 64 ∧ k (.str (toString i)) S
  | _ => False
def biS (f : Bi) (own : Bool) : List SV → Sto → SK → Prop := match f with
  | .len => r1 lenS
  | .list => r1 (listS own)
  | .tuple => r1 (tupleS own)
  | .mn => mnA
  | .mx => mxA
  | .abs => r1 absS
  | .int => r1 intS
  | .sum => r1 sumS
  | .all => r1 allS
  | .any => r1 anyS
  | .sorted => r1 (sortedS own)
  | .str => r1 strS
  | _ => fun _ _ _ => False
inductive Cl where
  | list | tuple | int | str | bool | none
  deriving DecidableEq
def appendS (x v : SV) (S : Sto) (k : SK) : Prop := match x with
  | .own p => ∃ l, S p = some (.lst l) ∧ l.length < sizeLine ∧ k .non (supd S p (.lst (l ++ [v])))
  | _ => False
def extendS (x v : SV) (S : Sto) (k : SK) : Prop := match x with
  | .own p => ∃ l r, S p = some (.lst l) ∧ items S v = some r ∧ l.length + r.length ≤ sizeLine ∧ k .non (supd S p (.lst (l ++ r)))
  | _ => False
def joinS (x v : SV) (S : Sto) (k : SK) : Prop := match x with
  | .str a => ∃ l ys, seqOf S v = some l ∧ strL l = some ys ∧ (ys.map fun y => y.length).sum + ys.length * a.length ≤ 16777216 ∧ k (.str (Txt.join a ys)) S
  | _ => False
def popS (x v : SV) (S : Sto) (k : SK) : Prop := match x, v with
  | .own p, .int i => ∃ l j y, S p = some (.lst l) ∧ -(2 ^ 62) ≤ i ∧ i < 2 ^ 62 ∧ ixN l.length i = some j ∧ l[j]? = some y ∧ k y (supd S p (.lst (l.eraseIdx j)))
  | _, _ => False
def indexS (x v : SV) (S : Sto) (k : SK) : Prop := ∃ (ws : List Str) (a : Str), seqOf S x = some (ws.map SV.str) ∧ v = .str a ∧ a ∈ ws ∧ k (.int (ws.idxOf a : Nat)) S
def splitS (own : Bool) (x y : SV) (S : Sto) (k : SK) : Prop := match x, y with
  | .str a, .str b => (b.length == 0) = false ∧ a.length + 2 ≤ sizeLine ∧ newL own ((Txt.split a b).map SV.str) S k
  | _, _ => False
def pop0S (x : SV) (S : Sto) (k : SK) : Prop := match x with
  | .own p => ∃ l y, S p = some (.lst l) ∧ l[l.length - 1]? = some y ∧ k y (supd S p (.lst l.dropLast))
  | _ => False
def clearS (x : SV) (S : Sto) (k : SK) : Prop := match x with
  | .own p => ∃ l, S p = some (.lst l) ∧ k .non (supd S p (.lst []))
  | _ => False
def r0 (r : Sto → SK → Prop) : List SV → Sto → SK → Prop
  | [] => r
  | _ => fun _ _ => False
def insertS (x v y : SV) (S : Sto) (k : SK) : Prop := match x, v with
  | .own p, .int i => ∃ l, S p = some (.lst l) ∧ l.length < sizeLine ∧ 0 ≤ i ∧ i < 2 ^ 62 ∧ k .non (supd S p (.lst (l.take i.toNat ++ [y] ++ l.drop i.toNat)))
  | _, _ => False
def lcountS (x v : SV) (S : Sto) (k : SK) : Prop := ∃ l ds d, items S x = some l ∧ toDs l = some ds ∧ toD v = some d ∧ SeqAt.shaped (.list ds) = true ∧ SeqAt.shaped d = true ∧ k (.int (ds.countP fun z => PyData.eqv z d : Nat)) S
def lindexS (x v : SV) (S : Sto) (k : SK) : Prop := ∃ l ds d j z, items S x = some l ∧ toDs l = some ds ∧ toD v = some d ∧ SeqAt.shaped (.list ds) = true ∧ SeqAt.shaped d = true ∧ ds[j]? = some z ∧ PyData.eqv z d = true ∧ (∀ m z', m < j → ds[m]? = some z' → PyData.eqv z' d = false) ∧ k (.int (j : Nat)) S
/-- the first thing that is alike is taken out -/
def removeS (x v : SV) (S : Sto) (k : SK) : Prop := match x with
  | .own p => ∃ l ds d j z, S p = some (.lst l) ∧ toDs l = some ds ∧ toD v = some d ∧ SeqAt.shaped (.list ds) = true ∧ SeqAt.shaped d = true ∧ ds[j]? = some z ∧ PyData.eqv z d = true ∧ (∀ m z', m < j → ds[m]? = some z' → PyData.eqv z' d = false) ∧ k .non (supd S p (.lst (l.eraseIdx j)))
  | _ => False
/-- where a text stands in a text first -/
def sindexS (x v : SV) (S : Sto) (k : SK) : Prop := ∃ a b i rest, x = .str a ∧ v = .str b ∧ Builtin.Str.occurrences a b 0 a.length 1 = i :: rest ∧ k (.int (i : Nat)) S
def mtS (m : Mt) (own : Bool) (x : SV) : List SV → Sto → SK → Prop := match m with
  | .append => r1 (appendS x)
  | .extend => r1 (extendS x)
  | .join => r1 (joinS x)
  | .split => r1 (splitS own x)
  | .popAt => r1 (popS x)
  | .count => r1 (lcountS x)
  | .pop => r0 (pop0S x)
  | .clear => r0 (clearS x)
  | .insert => r2 (insertS x)
  | .index => r1 (lindexS x)
  | .remove => r1 (removeS x)
  | .indexT => fun v S k => (∃ l, x = .tuf l) ∧ r1 (indexS x) v S k
  | .indexS => r1 (sindexS x)
/-- what a method is of -/
def rcvS (m : Mt) (S : Sto) (x : SV) : Prop := match m with
  | .join => ∃ s, x = .str s
  | .split => ∃ s, x = .str s
  | .indexT => ∃ l, x = .tuf l
  | .indexS => ∃ s, x = .str s
  | _ => ∃ l, items S x = some l
/-! targets -/
def tgI : MT → List Nat
  | .one i _ => [i]
  | .many l => l.map Prod.fst
def setAll : List Nat → List SV → Ro → Option Ro
  | [], [], ρ => some ρ
  | i :: is, x :: xs, ρ => setAll is xs (ρ.set i (some x))
  | _, _, _ => none
def tgS (t : MT) (S : Sto) (x : SV) (ρ : Ro) (k : Ro → Prop) : Prop := match t with
  | .one i _ => k (ρ.set i (some x))
  | .many l => ∃ xs ρ', (x = .tup xs ∨ x = .tuf xs ∨ items S x = some xs) ∧ setAll (l.map Prod.fst) xs ρ = some ρ' ∧ k ρ'
/-! what is walked: the items -/
def rngL (lo : Int) (n : Nat) : List SV := (List.range n).map fun i : Nat => SV.int (lo + (i : Int))
def enumL (l : List SV) (i : Nat) : List SV := match l with
  | [] => []
  | x :: r => .tup [.int (i : Int), x] :: enumL r (i + 1)
def zipL (l m : List SV) : List SV := match l, m with
  | x :: r, y :: s => .tup [x, y] :: zipL r s
  | _, _ => []
def itS (k : ItK) (vs : List SV) (S : Sto) (q : List SV → Prop) : Prop := match k, vs with
  | .seq, [.str w] => q (w.cps.toList.map fun c => .str ⟨#[c]⟩)
  | .seq, [.lst l] => q l
  | .seq, [.tup l] => q l
  | .seq, [.tuf l] => q l
  | .rng1, [.int j] => -(2 ^ 62) ≤ j ∧ j < 2 ^ 62 ∧ q (rngL 0 j.toNat)
  | .rng2, [.int i, .int j] => (-(2 ^ 62) ≤ i ∧ i < 2 ^ 62 ∧ -(2 ^ 62) ≤ j ∧ j < 2 ^ 62) ∧ q (rngL i (j - i).toNat)
  | .enum, [.lst l] => q (enumL l 0)
  | .enum, [.tup l] => q (enumL l 0)
  | .enum, [.tuf l] => q (enumL l 0)
  | .zip, [.lst l, .lst m] => q (zipL l m)
  | .zip, [.tup l, .tup m] => q (zipL l m)
  | .zip, [.tuf l, .tuf m] => q (zipL l m)
  | .zip, [.tup l, .tuf m] => q (zipL l m)
  | .zip, [.tuf l, .tup m] => q (zipL l m)
  | _, _ => False
def wipeR (ρ : Ro) : List Nat → Ro
  | [] => ρ
  | v :: vs => (wipeR ρ vs).set v none
/-- a comprehension's turns -/
def lcRun (t : MT) (ρ : Ro) (cc : Ro → Sto → (Bool → Sto → Prop) → Prop) (ec : SE) : List SV → List SV → Sto → (List SV → Sto → Prop) → Prop
  | [], acc, S, Q => Q acc S
  | x :: r, acc, S, Q => tgS t S x ρ fun ρ' => cc ρ' S fun b S' => if b = true then ec ρ' S' fun v S'' => acc.length < sizeLine ∧ lcRun t ρ cc ec r (acc ++ [v]) S'' Q else lcRun t ρ cc ec r acc S' Q
def revS (own : Bool) (x : SV) (S : Sto) (k : SK) : Prop := match tupOf x with
  | some l => k (.tup l.reverse) S
  | none => ∃ l, items S x = some l ∧ newL own l.reverse S k
def cstS : Const → Option SV
  | .none => some .non
  | .bool b => some (.bl b)
  | .int i => some (.int i)
  | .str s => some (.str s)
  | _ => none
/-- the unlike ones of some texts, in the order in which they came -/
def metS : List PySem.Str → List PySem.Str → List PySem.Str
  | acc, [] => acc
  | acc, x :: r => metS (if x ∈ acc then acc else acc ++ [x]) r
/-- the unlike ones, in the order in which they came -/
def metX {κ : Type} [DecidableEq κ] : List κ → List κ → List κ
  | acc, [] => acc
  | acc, x :: r => metX (if x ∈ acc then acc else acc ++ [x]) r
def keysU : List SV → Option (List (List Key))
  | [] => some []
  | x :: l => ((tupOf x).bind keysOf).bind fun k => (keysU l).map fun r => k :: r
def lsetTS (x : SV) (S : Sto) (k : SK) : Prop := ∃ l ks, seqOf S x = some l ∧ keysU l = some ks ∧ ks.length ≤ 1000 ∧ k (.int ((metX [] ks).length : Nat)) S
def ssetTS (own : Bool) (x : SV) (S : Sto) (k : SK) : Prop := ∃ l ks ds, seqOf S x = some l ∧ keysT l = some ks ∧ ks.length ≤ 1000 ∧ toDs l = some ds ∧ PySem.W.AllAlike ds ∧ (∀ d ∈ ds, d.depth ≤ 8) ∧ ∀ rs : List (List Key), rs.Perm (metX [] ks) → newL own (srtL (rs.map tupK)) S k
def setTS (ln own : Bool) (x : SV) (S : Sto) (k : SK) : Prop := if ln = true then lsetTS x S k else ssetTS own x S k
section
variable (C : Cal) (g : Str → Option SV)
mutual
def wE : ME → SE
  | .var i _ => fun ρ S k => ∃ v, ρ[i]? = some (some v) ∧ k v S
  | .cst c => fun _ S k => ∃ v, cstS c = some v ∧ k v S
  | .glob x => fun _ S k => ∃ v, g x = some v ∧ k v S
  | .tup as => fun ρ S k => wA as ρ S fun vs S' => vs.length ≤ sizeLine ∧ k (.tup vs) S'
  | .lst own as => fun ρ S k => wA as ρ S fun vs S' => newL own vs S' k
  | .bin o own a b => fun ρ S k => wE a ρ S fun x S1 => wE b ρ S1 fun y S2 => binS o own x y S2 k
  | .cmp o a b => fun ρ S k => wE a ρ S fun x S1 => wE b ρ S1 fun y S2 => cmpS o x y S2 k
  | .neg a => fun ρ S k => wE a ρ S fun x S1 => ∃ i, x = .int i ∧ k (.int (-i)) S1
  | .and a b => fun ρ S k => wE a ρ S fun x S1 => ∃ q, x = .bl q ∧ if q = true then wE b ρ S1 k else k (.bl false) S1
  | .or a b => fun ρ S k => wE a ρ S fun x S1 => ∃ q, x = .bl q ∧ if q = true then k (.bl true) S1 else wE b ρ S1 k
  | .not a => fun ρ S k => wE a ρ S fun x S1 => ∃ q, x = .bl q ∧ k (.bl !q) S1
  | .idx a i => fun ρ S k => wE a ρ S fun x S1 => wE i ρ S1 fun y S2 => idxS x y S2 k
  | .sl own a lo hi => fun ρ S k => wE a ρ S fun x S1 => wO lo ρ S1 fun l S2 => wO hi ρ S2 fun h S3 => slS own x l h S3 k
  | .rev own a => fun ρ S k => wE a ρ S fun x S1 => revS own x S1 k
  | .call f as => fun ρ S k => wA as ρ S fun vs S' => C f vs S' k
  | .bi f own as => fun ρ S k => wA as ρ S fun vs S' => biS f own vs S' k
  | .mt m own a as => fun ρ S k => wE a ρ S fun x S1 => rcvS m S1 x ∧ wA as ρ S1 fun vs S2 => mtS m own x vs S2 k
  | .lc own ow elt t ik ia c => fun ρ S k => wA ia ρ S fun vs S1 => itS ik vs S1 fun l =>
      lcRun t (wipeR ρ (ow.map Prod.snd)) (wC c) (wE elt) l [] S1 fun acc S2 => newL own acc S2 k
  | .callv i _ as => fun ρ S k => ∃ a c cs ws, ρ[i]? = some (some (.lam a c cs ws)) ∧ C "<is lambda>" [.lam a c cs ws] S (fun _ _ => True) ∧ wA as ρ S fun vs S1 => C "<lambda>" (.lam a c cs ws :: vs) S1 k
  | .setT ln own a => fun ρ S k => wE a ρ S fun x S1 => setTS ln own x S1 k
  | .dnew tk => fun _ S k => ∀ p, S p = none → k (.own p) (supd S p (if tk = true then .dT [] [] else .dK [] []))
def wA : MA → SEs
  | .nil => fun _ S k => k [] S
  | .cons e as => fun ρ S k => wE e ρ S fun v S1 => wA as ρ S1 fun vs S2 => k (v :: vs) S2
/-- a bound of a part -/
def wO : MO → Ro → Sto → (Option Int → Sto → Prop) → Prop
  | .none => fun _ S k => k none S
  | .some e => fun ρ S k => wE e ρ S fun v S1 => ∃ i, v = .int i ∧ k (some i) S1
/-- a condition -/
def wC : MO → Ro → Sto → (Bool → Sto → Prop) → Prop
  | .none => fun _ S k => k true S
  | .some e => fun ρ S k => wE e ρ S fun v S1 => ∃ b, v = .bl b ∧ k b S1
end
def wT (e : ME) (ρ : Ro) (S : Sto) (k : Bool → Sto → Prop) : Prop := wE C g e ρ S fun v S1 => ∃ b, v = .bl b ∧ k b S1

end
structure SD where
  nx : Ro → Sto → Prop
  rt : SK
  bk : Ro → Sto → Prop
  ct : Ro → Sto → Prop
abbrev SS := SD → Ro → Sto → Prop
/-- a loop's turns -/
def forRun (t : MT) (body : SS) (D : SD) : List SV → Ro → Sto → Prop
  | [], ρ, S => D.nx ρ S
  | x :: r, ρ, S => tgS t S x ρ fun ρ' => body ⟨forRun t body D r, D.rt, D.nx, forRun t body D r⟩ ρ' S
def setS (x y v : SV) (S : Sto) (q : Sto → Prop) : Prop := match x with
  | .own p => match dicW S p with
    | some d => ∃ d', putD d y v = some d' ∧ lenD d < sizeLine ∧ q (supd S p d')
    | none => ∃ i l j, y = .int i ∧ S p = some (.lst l) ∧ ixN l.length i = some j ∧ q (supd S p (.lst (l.set j v)))
  | _ => False
/-- what comes behind a call: what was made within and is not told any more is let go -/
def fin (Q : SK) (v : SV) (S : Sto) : Prop := ∃ S2 v', Sub S2 S ∧ Frz S S2 v v' ∧ Q v' S2
/-- what some slots hold -/
def capt (ρ : Ro) : List Nat → Option (List SV)
  | [] => some []
  | j :: js => (ρ[j]?).bind fun o => o.bind fun x => (capt ρ js).map fun r => x :: r
/-- a lambda's meaning -/
def lamR (g : Str → Option SV) (ps : List Str) (body : ME) (cs : List SV) (C : Cal) (us : List SV) (S : Sto) (Q : SK) : Prop := us.length = ps.length ∧ wE C g body (us.map some ++ cs.map some) S (fin Q)
section
variable (C : Cls) (g : Str → Option SV) (ex : XS)
/-- a call that may raise, by what is wanted where it does -/
def wX : MX → SE
  | .call f as => fun ρ S k => wA C.c g as ρ S fun vs S1 => C.x f vs S1 k ex
  | .tup2 x b => fun ρ S k => wX x ρ S fun v S1 => wE C.c g b ρ S1 fun u S2 => k (.tup [v, u]) S2
  | .callL f a b x => fun ρ S k => wE C.c g a ρ S fun u S1 => wE C.c g b ρ S1 fun v S2 => wX x ρ S2 fun w S3 => C.x f [u, v, w] S3 k ex
  | .pcall f x => fun ρ S k => wX x ρ S fun v S1 => C.c f [v] S1 k
  | .spl own x w => fun ρ S k => wX x ρ S fun v S1 => splitS own v (.str w) S1 k
  | .one own x => fun ρ S k => wX x ρ S fun v S1 => newL own [v] S1 k
def wY : MY → (Ro → Sto → Prop) → Ro → Sto → Prop
  | .ex x => fun nx ρ S => wX C g ex x ρ S fun _ S1 => nx ρ S1
  | .asg t x => fun nx ρ S => wX C g ex x ρ S fun v S1 => tgS t S1 v ρ fun ρ' => nx ρ' S1
  | .ifs c a b => fun nx ρ S => wT C.c g c ρ S fun q S1 => if q = true then wY a nx ρ S1 else wY b nx ρ S1
end
section
variable (C : Cls) (g : Str → Option SV)
mutual
def wS : MS → SS
  | .asg t e => fun D ρ S => wE C.c g e ρ S fun v S1 => tgS t S1 v ρ fun ρ' => D.nx ρ' S1
  | .setIx a i e => fun D ρ S => wE C.c g e ρ S fun v S1 => wE C.c g a ρ S1 fun x S2 => wE C.c g i ρ S2 fun y S3 => setS x y v S3 fun S4 => D.nx ρ S4
  | .ex e => fun D ρ S => wE C.c g e ρ S fun _ S1 => D.nx ρ S1
  | .ret e => fun D ρ S => wE C.c g e ρ S D.rt
  | .retN => fun D _ S => D.rt .non S
  | .ifs c a b => fun D ρ S => wT C.c g c ρ S fun q S1 => if q = true then wB a D ρ S1 else wB b D ρ S1
  | .for_ t k ia body => fun D ρ S => wA C.c g ia ρ S fun vs S1 => itS k vs S1 fun l => forRun t (wB body) D l ρ S1
  | .pass => fun D ρ S => D.nx ρ S
  | .brk => fun D ρ S => D.bk ρ S
  | .cont => fun D ρ S => D.ct ρ S
  | .frz i => fun D ρ S => ∃ p S2 v, ρ[i]? = some (some (.own p)) ∧ Sub S2 S ∧ Frz S S2 (.own p) v ∧ D.nx (ρ.set i (some v)) S2
  | .never => fun _ _ _ => False
  | .asgL i _ f a b c _ ps js body => fun D ρ S => 2 ≤ C.lv ∧ wA C.c g (.cons a (.cons b (.cons c .nil))) ρ S fun vs S1 => ∃ cs, capt ρ js = some cs ∧
      ∀ p c' ws, C.l f (.lam p c' cs ws) (lamR g ps body cs) (vs ++ [.lam p c' cs ws]) S1 fun v S2 => D.nx (ρ.set i (some v)) S2
def wB : MB → SS
  | .nil => fun D ρ S => D.nx ρ S
  | .cons s b => fun D ρ S => wS s ⟨fun ρ' S' => wB b D ρ' S', D.rt, D.bk, D.ct⟩ ρ S
end
end
/-- a def of the program -/
structure Def where
  ps : List Str
  N : List Str
  body : MB
def startR (d : Def) (vs : List SV) : Ro := vs.map some ++ List.replicate (d.N.length - vs.length) none
def finX (E : XS) : XS := fun e S => ∃ S2, Sub S2 S ∧ E e S2
/-- no method's full name -/
def noDot (f : PySem.Str) : Bool := f.cps.all fun c => c != 46
def noL : Str → SV → (Cal → List SV → Sto → SK → Prop) → List SV → Sto → SK → Prop := fun _ _ _ _ _ _ => False
/-- a body, by what its calls mean -/
def runB (P : Str → Option Def) (g : Str → Option SV) (C : XS → Cls) (f : Str) (vs : List SV) (S : Sto) (Q : SK) (E : XS) : Prop := ∃ d, P f = some d ∧ vs.length = d.ps.length ∧ wB (C E) g d.body ⟨fun _ S' => fin Q .non S', fin Q, fun _ _ => False, fun _ _ => False⟩ (startR d vs) S
/-- calls where no lambda is made -/
def callX0 (P : Str → Option Def) (g : Str → Option SV) : Nat → Str → List SV → Sto → SK → XS → Prop
  | 0 => fun _ _ _ _ _ => False
  | k + 1 => runB P g fun E => ⟨fun f vs S Q => callX0 P g k f vs S Q noX, callX0 P g k, finX E, k, fun f => (P f).isSome = true ∧ noDot f = true, noL⟩
def callS0 (P : Str → Option Def) (g : Str → Option SV) (k : Nat) : Cal := fun f vs S Q => callX0 P g k f vs S Q noX
/-- the calls within a def that got the lambda x, whose meaning is R -/
def calL (P : Str → Option Def) (g : Str → Option SV) (k : Nat) (x : SV) (R : Cal → List SV → Sto → SK → Prop) : Cal := fun f vs S Q =>
  if f = "<is lambda>" then vs = [x] else if f = "<lambda>" then ∃ us, vs = x :: us ∧ R (callS0 P g k) us S Q else callS0 P g (k + 1) f vs S Q
/-- a call with a lambda at level k -/
def callL (P : Str → Option Def) (g : Str → Option SV) : Nat → Str → SV → (Cal → List SV → Sto → SK → Prop) → List SV → Sto → SK → Prop
  | k + 2 => fun f x R vs S Q => runB P g (fun E => ⟨calL P g k x R, callX0 P g (k + 1), finX E, k + 1, fun f => (P f).isSome = true ∧ noDot f = true, noL⟩) f vs S Q noX
  | _ => noL
/-- a call at level k: what is wanted of its value, and of what it raises -/
def callX (P : Str → Option Def) (g : Str → Option SV) : Nat → Str → List SV → Sto → SK → XS → Prop
  | 0 => fun _ _ _ _ _ => False
  | k + 1 => runB P g fun E => ⟨fun f vs S Q => callX P g k f vs S Q noX, callX P g k, finX E, k, fun f => (P f).isSome = true ∧ noDot f = true, callL P g k⟩
def callS (P : Str → Option Def) (g : Str → Option SV) (k : Nat) : Cal := fun f vs S Q => callX P g k f vs S Q noX

/-! ### is a small tree that of a written body? -/
def ex0 : List Str := ["NoRow", "NoAsk"]
def ex1 : List (Str × Str) := [("NoName", "word"), ("NoWeb", "row")]
/-- the names' slots, the defs that may be called -/
structure Ck where
  N : List Str
  T : List Str
  /-- the classes of refusals that the row has -/
  E : List Str := []
  /-- the def may make a lambda -/
  L : Bool := false
  /-- the methods: full name, class, name -/
  M : List (Str × Str × Str) := []
def nmE (N : List Str) (sc : Scope) (i : Nat) (x : Str) : Bool := decide (N[i]? = some x) && (x != "__debug__") && (x != "__classdict__") && (match sc.names.lookup x with
  | some .local => true
  | some .cell => true
  | some .free => true
  | _ => false)
def glE (sc : Scope) (x : Str) : Bool := (match sc.names.lookup x with
  | some .globalImplicit => true
  | _ => false) && (x != "__debug__") && (x != "__name__")
/-- a name that is stored -/
def stE (N : List Str) (rs : Scope) (i : Nat) (x : Str) : Bool := decide (N[i]? = some x) && (match rs.names.lookup x with
  | some .local => true
  | some .cell => true
  | _ => false)
def biN : Bi → Str
  | .len => "len"
  | .sorted => "sorted"
  | .tuple => "tuple"
  | .list => "list"
  | .mn => "min"
  | .mx => "max"
  | .sum => "sum"
  | .all => "all"
  | .any => "any"
  | .abs => "abs"
  | .int => "int"
  | .str => "str"
  | .dict => "dict"
  | .isinst => "isinstance"
def tyN : Ty → Str
  | .tuple => "tuple"
  | .list => "list"
  | .str => "str"
  | .int => "int"
  | .bool => "bool"
def mtN : Mt → Str
  | .append => "append"
  | .pop => "pop"
  | .extend => "extend"
  | .index => "index"
  | .join => "join"
  | .split => "split"
  | .clear => "clear"
  | .count => "count"
  | .insert => "insert"
  | .popAt => "pop"
  | .indexT => "index"
  | .indexS => "index"
  | .remove => "remove"
def mtIn : Mt → Bool
  | .append => true
  | .extend => true
  | .join => true
  | .split => true
  | .popAt => true
  | .indexT => true
  | .indexS => true
  | .count => true
  | .pop => true
  | .clear => true
  | .insert => true
  | .index => true
  | .remove => true
def mtA : Mt → Nat
  | .insert => 2
  | .pop => 0
  | .clear => 0
  | _ => 1
def tgE (N : List Str) (rs : Scope) : MT → Expr → Bool
  | .one i x, .Name y _ => decide (x = y) && stE N rs i x
  | .many l, .Tuple es _ _ => decide (l.length = es.length) && (l.zip es).all fun p => match p.2 with
    | .Name y _ => decide (p.1.2 = y) && stE N rs p.1.1 p.1.2
    | _ => false
  | _, _ => false
def tupE : Expr → Bool
  | .Tuple _ _ _ => true
  | _ => false
def revE : Expr → Bool
  | .Slice none none (some (.UnaryOp .USub (.Constant (.int i) _ _) _)) _ => decide (i = 1)
  | _ => false
/-- what may stand as a test -/
def tM : ME → Bool
  | .and a b => tM a && tM b
  | .or a b => tM a && tM b
  | .not a => tM a
  | _ => true
/-- a list [l + w, e2, e3, e4, o.replace(y, z, 1)] -/
def lstRE : Expr → Option (Expr × Str × Expr × Expr × Expr × Expr × Str × Str)
  | .List [.BinOp l .Add (.Constant (.str w) _ _) _, e2, e3, e4, .Call (.Attribute o m apos) [.Constant (.str y) _ _, .Constant (.str z) _ _, .Constant (.int i) _ _] [] pos] _ =>
    if (decide (m = "replace") && decide (i = 1) && (apos.endLine == pos.line) && !(y == z)) = true then some (l, w, e2, e3, e4, o, y, z) else none
  | _ => none
mutual
def cE (N : Ck) (sc : Scope) : ME → Expr → Bool
  | .var i x, .Name y _ => decide (x = y) && nmE N.N sc i x
  | .cst c, .Constant c' _ _ => decide (c = c') && (cstS c).isSome
  | .glob x, .Name y _ => decide (x = y) && glE sc x
  | .tup as, .Tuple es _ _ => cA N sc as es
  | .lst _ as, .List es _ => cA N sc as es
  | .bin o _ a b, .BinOp l o' r _ => decide (o = o') && cE N sc a l && cE N sc b r
  | .cmp o a b, .Compare l [o'] [r] _ => decide (o = o') && cE N sc a l && cE N sc b r
  | .neg a, .UnaryOp .USub e _ => cE N sc a e
  | .not a, .UnaryOp .Not e _ => cE N sc a e
  | .and a b, .BoolOp .And [x, y] _ => cE N sc a x && cE N sc b y
  | .and a b, .BoolOp .And (x :: y :: z :: r) pos => cE N sc a x && cE N sc b (.BoolOp .And (y :: z :: r) pos)
  | .or a b, .BoolOp .Or [x, y] _ => cE N sc a x && cE N sc b y
  | .or a b, .BoolOp .Or (x :: y :: z :: r) pos => cE N sc a x && cE N sc b (.BoolOp .Or (y :: z :: r) pos)
  | .idx a i, .Subscript x y _ => cE N sc a x && cE N sc i y
  | .sl _ a lo hi, .Subscript x (.Slice l h none _) _ => cE N sc a x && cO N sc lo l && cO N sc hi h
  | .rev _ a, .Subscript x y _ => revE y && cE N sc a x
  | .call f as, .Call (.Name y _) es [] _ => decide (f = y) && glE sc f && decide (f ∈ N.T) && cA N sc as es
  | .bi f _ as, .Call (.Name y _) es [] _ => decide (biN f = y) && glE sc y && cA N sc as es
  | .mt m _ a as, .Call (.Attribute o y apos) es [] pos => mtIn m && decide (mtN m = y) && (apos.endLine == pos.line) && decide (es.length = mtA m) && cE N sc a o && cA N sc as es
  | .lc _ ow elt t ik ia c, .ListComp e [⟨tg, iter, ifs, 0⟩] scope _ => blkC N.N sc scope ow && (tgI t).all (fun i => decide (i ∈ ow.map Prod.snd)) && tgE N.N scope t tg && cI N sc ik ia iter (tupE tg) && cC N (relS scope sc) c ifs && cE N (relS scope sc) elt e
  | .setT ln _ a, .Call (.Name y _) [.Call (.Name z _) [e] [] _] [] _ => decide (y = if ln then "len" else "sorted") && glE sc y && decide (z = "set") && glE sc z && cE N sc a e
  | .dnew _, .Dict [] [] _ => true
  | .callv i x as, .Call (.Name y _) es [] _ => decide (x = y) && nmE N.N sc i x && (x != "super") && !es.isEmpty && cA N sc as es
  | _, _ => false
def cA (N : Ck) (sc : Scope) : MA → List Expr → Bool
  | .nil, [] => true
  | .cons m as, e :: es => cE N sc m e && cA N sc as es
  | _, _ => false
def cO (N : Ck) (sc : Scope) : MO → Option Expr → Bool
  | .none, none => true
  | .some m, some e => cE N sc m e
  | _, _ => false
def cC (N : Ck) (sc : Scope) : MO → List Expr → Bool
  | .none, [] => true
  | .some m, [e] => tM m && cE N sc m e
  | _, _ => false
/-- what is walked (tu: into a written tuple of names) -/
def cI (N : Ck) (sc : Scope) : ItK → MA → Expr → Bool → Bool
  | .seq, .cons m .nil, e, _ => cE N sc m e
  | .rng1, .cons m .nil, .Call (.Name y _) [a] [] _, _ => decide (y = "range") && glE sc y && cE N sc m a
  | .rng2, .cons m (.cons m2 .nil), .Call (.Name y _) [a, b] [] _, _ => decide (y = "range") && glE sc y && cE N sc m a && cE N sc m2 b
  | .enum, .cons m .nil, .Call (.Name y _) [a] [] _, tu => tu && decide (y = "enumerate") && glE sc y && cE N sc m a
  | .zip, .cons m (.cons m2 .nil), .Call (.Name y _) [a, b] [] _, tu => tu && decide (y = "zip") && glE sc y && cE N sc m a && cE N sc m2 b
  | _, _, _, _ => false
end
def lcE : Expr → Bool
  | .ListComp _ _ _ _ => true
  | _ => false
/-- a lambda's parameters are plain names -/
def lamP : Arguments → List Str → Bool
  | ⟨[], as, none, [], [], none, []⟩, ps => decide (as.map (fun a => a.arg) = ps)
  | _, _ => false
def tupX : MX → Bool
  | .tup2 _ _ => true
  | _ => false
def cX (N : Ck) (sc : Scope) : MX → Expr → Bool
  | .call f as, .Call (.Name x _) es [] _ => decide (f = x) && decide (f ∈ N.T) && glE sc f && !es.isEmpty && cA N sc as es
  | .tup2 x b, .Tuple [e1, e2] _ _ => cX N sc x e1 && cE N sc b e2
  | .callL f a b x, .Call (.Name y _) [e1, e2, e3] [] _ => decide (f = y) && decide (f ∈ N.T) && glE sc f && cE N sc a e1 && cE N sc b e2 && cX N sc x e3
  | .pcall f x, .Call (.Name y _) [e] [] _ => decide (f = y) && decide (f ∈ N.T) && glE sc f && cX N sc x e
  | .spl _ x w, .Call (.Attribute o m apos) [.Constant (.str w') _ _] [] pos => (apos.endLine == pos.line) && decide (m = "split") && decide (w = w') && cX N sc x o
  | .one _ x, .List [e] _ => cX N sc x e
  | _, _ => false
def cY (N : Ck) (sc : Scope) : MY → Stmt → Bool
  | .ex x, .Expr v _ => cX N sc x v
  | .asg t x, .Assign [tg] v _ => tgE N.N sc t tg && !tupX x && cX N sc x v
  | .ifs c a b, .If t [s1] [s2] _ => tM c && cE N sc c t && cY N sc a s1 && cY N sc b s2
  | _, _ => false
mutual
def cS (N : Ck) (sc : Scope) : MS → Stmt → Bool
  | .asg t e, .Assign [tg] v _ => tgE N.N sc t tg && cE N sc e v && !(tupE tg && tupE v)
  | .setIx a i e, .Assign [.Subscript l j _] v _ => cE N sc a l && cE N sc i j && cE N sc e v
  | .ex e, .Expr v _ => cE N sc e v && !lcE v
  | .ret e, .Return (some v) _ => cE N sc e v
  | .retN, .Return none _ => true
  | .ifs c a b, .If t x y _ => tM c && cE N sc c t && cB N sc a x && cB N sc b y
  | .for_ t k ia body, .For tg iter st [] _ => tgE N.N sc t tg && cI N sc k ia iter (tupE tg) && cB N sc body st
  | .pass, .Pass _ => true
  | .brk, .Break _ => true
  | .cont, .Continue _ => true
  | .never, _ => true
  | .asgL i x f a b c M ps js body, .Assign [.Name x' _] (.Call (.Name f' _) [e1, e2, e3, .Lambda params e scope _] [] _) _ =>
    N.L && decide (x = x') && stE N.N sc i x && decide (f = f') && decide (f ∈ N.T) && glE sc f && cE N sc a e1 && cE N sc b e2 && cE N sc c e3 && lamP params ps && decide (ps = (["one", "row"] : List Str)) && NdefX.nscB M ps (M.drop ps.length) scope && NdefX.ndefB sc scope (M.drop ps.length) &&
      decide (js.map (fun j => N.N[j]?) = (M.drop ps.length).map some) && cE ⟨M, N.T, [], false, []⟩ scope body e
  | _, _ => false
def cB (N : Ck) (sc : Scope) : MB → List Stmt → Bool
  | .nil, [] => true
  | .cons (.frz i) b, sts => cB N sc b sts
  | .cons s b, st :: sts => cS N sc s st && cB N sc b sts
  | _, _ => false
end
end Sy

/-! tuples of texts, in order -/
namespace Sy
open PySem PySem.Spec PyProof.Rows L2
theorem lex_lt (A B : List (List Nat)) : ∀ k i, i + k = min A.length B.length → Ob.lexAt (fun j => decide (A.getD j [] = B.getD j [])) (fun j => decide (A.getD j [] < B.getD j [])) (decide (A.length < B.length)) i k = decide (A.drop i < B.drop i)
  | 0, i, h => by
    rw [Ob.lexAt_zero]
    rcases Nat.lt_or_ge A.length B.length with z | z
    · have e : A.drop i = [] := List.drop_eq_nil_of_le (by omega)
      rw [e, decide_eq_true z]
      cases hb : B.drop i with
      | nil =>
        have := congrArg List.length hb
        rw [List.length_drop, List.length_nil] at this
        omega
      | cons b r => exact (decide_eq_true (List.nil_lt_cons _ _)).symm
    · have e : B.drop i = [] := List.drop_eq_nil_of_le (by omega)
      rw [e, decide_eq_false (by omega)]
      exact (decide_eq_false (List.not_lt_nil _)).symm
  | k + 1, i, h => by
    have ha : i < A.length := by omega
    have hb : i < B.length := by omega
    rw [Ob.lexAt_succ, lex_lt A B k (i + 1) (by omega), List.drop_eq_getElem_cons ha, List.drop_eq_getElem_cons hb]
    have e1 : A.getD i [] = A[i] := by rw [List.getD_eq_getElem?_getD, List.getElem?_eq_getElem ha]; rfl
    have e2 : B.getD i [] = B[i] := by rw [List.getD_eq_getElem?_getD, List.getElem?_eq_getElem hb]; rfl
    simp only [e1, e2]
    generalize A.drop (i + 1) = P
    generalize B.drop (i + 1) = R
    generalize A[i] = a
    generalize B[i] = b
    by_cases e : a = b
    · simp [e, List.cons_lt_cons_iff, List.lt_irrefl]
    · simp [e, List.cons_lt_cons_iff]
theorem lex_le (A B : List (List Nat)) : ∀ k i, i + k = min A.length B.length → Ob.lexAt (fun j => decide (A.getD j [] = B.getD j [])) (fun j => decide (A.getD j [] ≤ B.getD j [])) (decide (A.length ≤ B.length)) i k = decide (A.drop i ≤ B.drop i)
  | 0, i, h => by
    rw [Ob.lexAt_zero]
    rcases Nat.lt_or_ge B.length A.length with z | z
    · have e : B.drop i = [] := List.drop_eq_nil_of_le (by omega)
      rw [e, decide_eq_false (by omega)]
      cases hb : A.drop i with
      | nil =>
        have := congrArg List.length hb
        rw [List.length_drop, List.length_nil] at this
        omega
      | cons b r => exact (decide_eq_false (fun q => List.not_lt.mpr q (List.nil_lt_cons _ _))).symm
    · have e : A.drop i = [] := List.drop_eq_nil_of_le (by omega)
      rw [e, decide_eq_true z]
      exact (decide_eq_true (List.nil_le _)).symm
  | k + 1, i, h => by
    have ha : i < A.length := by omega
    have hb : i < B.length := by omega
    rw [Ob.lexAt_succ, lex_le A B k (i + 1) (by omega), List.drop_eq_getElem_cons ha, List.drop_eq_getElem_cons hb]
    have e1 : A.getD i [] = A[i] := by rw [List.getD_eq_getElem?_getD, List.getElem?_eq_getElem ha]; rfl
    have e2 : B.getD i [] = B[i] := by rw [List.getD_eq_getElem?_getD, List.getElem?_eq_getElem hb]; rfl
    simp only [e1, e2]
    generalize A.drop (i + 1) = P
    generalize B.drop (i + 1) = R
    generalize A[i] = a
    generalize B[i] = b
    by_cases e : a = b
    · simp [e, List.cons_le_cons_iff, List.lt_irrefl]
    · have : a ≤ b ↔ a < b := ⟨fun q => (List.le_iff_lt_or_eq.mp q).elim id fun z => absurd z e, List.le_of_lt⟩
      simp [e, List.cons_le_cons_iff, this]
theorem lex_gt (A B : List (List Nat)) (k i : Nat) (h : i + k = min A.length B.length) : Ob.lexAt (fun j => decide (A.getD j [] = B.getD j [])) (fun j => decide (B.getD j [] < A.getD j [])) (decide (B.length < A.length)) i k = decide (B.drop i < A.drop i) := by
  rw [← lex_lt B A k i (by omega)]
  congr 1
  funext j
  simp only [eq_comm]
theorem lex_ge (A B : List (List Nat)) (k i : Nat) (h : i + k = min A.length B.length) : Ob.lexAt (fun j => decide (A.getD j [] = B.getD j [])) (fun j => decide (B.getD j [] ≤ A.getD j [])) (decide (B.length ≤ A.length)) i k = decide (B.drop i ≤ A.drop i) := by
  rw [← lex_le B A k i (by omega)]
  congr 1
  funext j
  simp only [eq_comm]
/-- x op y, tuples of texts -/
def rOrdT (K : PySem.W.Frag) (t : List (List Nat) → List (List Nat) → Bool) : R2 := fun x y H Q => ∃ (a b : Addr) (p q : List Str), x = .ref a ∧ y = .ref b ∧ SqT K H a (p.map V.str) ∧ SqT K H b (q.map V.str) ∧ Q (.bl (t (wks p) (wks q))) H
theorem str_at : ∀ {ys : List Str} {us : List Value}, Vals (ys.map V.str) us → ∀ (j : Nat) (h : j < us.length), ∃ x t, us[j] = Value.str x t ∧ ys[j]? = some x
  | [], _, .nil, j, h => by cases h
  | y :: ys, _, .cons r t, j, h => by
    obtain ⟨k, rfl⟩ := r
    cases j with
    | zero => exact ⟨y, k, rfl, rfl⟩
    | succ j =>
      obtain ⟨x, t', e1, e2⟩ := str_at t j (by simpa using h)
      exact ⟨x, t', by simpa using e1, by simpa using e2⟩
theorem wks_at {ys : List Str} {j : Nat} {x : Str} (h : ys[j]? = some x) : (wks ys).getD j [] = x.cps.toList := by
  rw [List.getD_eq_getElem?_getD, List.getElem?_map, h]
  rfl
section
variable {X : Cx}
theorem op_ordT {c : CmpOp} {t : List (List Nat) → List (List Nat) → Bool} {r : List Nat → List Nat → Bool} {z : Nat → Nat → Bool}
    (hs : ∀ (A : Around) (s : Shared) (x y : Str) (t u : Tok), Ob.RcOp c A s (.str x t) (.str y u) (r x.cps.toList y.cps.toList))
    (hl : ∀ A B : List (List Nat), Ob.lexAt (fun j => decide (A.getD j [] = B.getD j [])) (fun j => r (A.getD j []) (B.getD j [])) (z A.length B.length) 0 (min A.length B.length) = t A B)
    (hT : ∀ (s : Shared) (l b : Addr) (items items2 : Array Value) (e r : Nat → Bool), s.heap.IsTuple l items → s.heap.IsTuple b items2 → (∀ j (h1 : j < items.size) (h2 : j < items2.size), SeqAt.EqAt X.A.in1 s items[j] items2[j] (e j)) →
      (∀ j (h1 : j < items.size) (h2 : j < items2.size), e j = false → Ob.RcOp c X.A.in1 s items[j] items2[j] (r j)) → Ob.RcOp c X.A s (.ref l) (.ref b) (Ob.lexAt e r (z items.size items2.size) 0 (min items.size items2.size)))
    (hop : ∀ (s : Shared) (x y : Value) (E : Value → Shared → Prop) (Q : Value → Shared → Prop), wpAny (model X.prog X.w) X.A (richCompare c x y) Q E s → wpAny (model X.prog X.w) X.A (compareOp c x y) Q E s) : OpR X (compareOp c) (rOrdT X.K t) := by
  intro pins s σ H x y v u Q I rx ry h
  obtain ⟨a, b, p, q, rfl, rfl, ha, hb, hq⟩ := h
  cases rx
  cases ry
  obtain ⟨its, r1, p1, _⟩ := I.tuple ha
  obtain ⟨its2, r2, p2, _⟩ := I.tuple hb
  have e1 : its.toArray.size = p.length := by rw [List.size_toArray, ← r1.length, List.length_map]
  have e2 : its2.toArray.size = q.length := by rw [List.size_toArray, ← r2.length, List.length_map]
  have R := hT s a b its.toArray its2.toArray (fun j => decide ((wks p).getD j [] = (wks q).getD j [])) (fun j => r ((wks p).getD j []) ((wks q).getD j [])) p1 p2 (fun j h1 h2 => by
    obtain ⟨x, t1, ex, gx⟩ := str_at r1 j (by simpa using h1)
    obtain ⟨y, t2, ey, gy⟩ := str_at r2 j (by simpa using h2)
    have ex' : its.toArray[j] = Value.str x t1 := by simpa using ex
    have ey' : its2.toArray[j] = Value.str y t2 := by simpa using ey
    rw [ex', ey', wks_at gx, wks_at gy]
    have z : (x == y) = decide (x.cps.toList = y.cps.toList) := by
      by_cases e : x = y
      · subst e; simp
      · rw [decide_eq_false fun w => e (PySem.W.str_of_cps w)]
        exact beq_eq_false_iff_ne.mpr e
    rw [← z]
    exact SeqAt.EqAt.str_str _ _ _ _) (fun j h1 h2 _ => by
    obtain ⟨x, t1, ex, gx⟩ := str_at r1 j (by simpa using h1)
    obtain ⟨y, t2, ey, gy⟩ := str_at r2 j (by simpa using h2)
    have ex' : its.toArray[j] = Value.str x t1 := by simpa using ex
    have ey' : its2.toArray[j] = Value.str y t2 := by simpa using ey
    rw [ex', ey', wks_at gx, wks_at gy]
    exact hs _ _ _ _ _ _)
  rw [e1, e2, show p.length = (wks p).length from (List.length_map _).symm, show q.length = (wks q).length from (List.length_map _).symm, hl] at R
  exact hop s _ _ _ _ (R X.prog X.w X.xe (EP X pins σ Q) ⟨.bl _, H, I, rfl, hq⟩)
theorem not_lt_dec (a b : List Nat) : (!decide (b < a)) = decide (a ≤ b) := by
  by_cases h : b < a
  · have : ¬ a ≤ b := fun z => (List.not_le.mpr h) z
    simp [h, this]
  · have : a ≤ b := List.not_lt.mp h
    simp [h, this]
theorem op_ltTS (hu : X.A.units < cLine) : OpR X (compareOp .Lt) (rOrdT X.K fun a b => decide (a < b)) :=
  op_ordT (r := fun a b => decide (a < b)) (z := fun m n => decide (m < n)) (fun _ _ _ _ _ _ _ _ _ _ h => lt_str h) (fun A B => lex_lt A B _ 0 (by omega)) (fun s l b i1 i2 e r h1 h2 he hr => Ob.RcOp.tuples_lt h1 h2 hu he hr) fun _ _ _ _ _ h => h
theorem op_leTS (hu : X.A.units < cLine) : OpR X (compareOp .LtE) (rOrdT X.K fun a b => decide (a ≤ b)) :=
  op_ordT (r := fun a b => decide (a ≤ b)) (z := fun m n => decide (m ≤ n)) (fun _ _ _ _ _ _ _ _ _ _ h => PySem.P.le_str (by rw [not_lt_dec]; exact h)) (fun A B => lex_le A B _ 0 (by omega)) (fun s l b i1 i2 e r h1 h2 he hr => Ob.RcOp.tuples_le h1 h2 hu he hr) fun _ _ _ _ _ h => h
theorem op_gtTS (hu : X.A.units < cLine) : OpR X (compareOp .Gt) (rOrdT X.K fun a b => decide (b < a)) :=
  op_ordT (r := fun a b => decide (b < a)) (z := fun m n => decide (n < m)) (fun _ _ _ _ _ _ _ _ _ _ h => PySem.P.gt_str h) (fun A B => lex_gt A B _ 0 (by omega)) (fun s l b i1 i2 e r h1 h2 he hr => Ob.RcOp.tuples_gt h1 h2 hu he hr) fun _ _ _ _ _ h => h
theorem op_geTS (hu : X.A.units < cLine) : OpR X (compareOp .GtE) (rOrdT X.K fun a b => decide (b ≤ a)) :=
  op_ordT (r := fun a b => decide (b ≤ a)) (z := fun m n => decide (n ≤ m)) (fun _ _ _ _ _ _ _ _ _ _ h => PySem.P.ge_str (by rw [not_lt_dec]; exact h)) (fun A B => lex_ge A B _ 0 (by omega)) (fun s l b i1 i2 e r h1 h2 he hr => Ob.RcOp.tuples_ge h1 h2 hu he hr) fun _ _ _ _ _ h => h
end
end Sy

namespace Sy
open PySem PySem.Spec PyProof.Rows L2

/-! ### the readings of the layer by the data -/
def RepR (K : PySem.W.Frag) (F : Hp) (ρ : Ro) (σ : L2.St) : Prop := ρ.length = σ.length ∧ ∀ (i : Nat) (x : SV), ρ[i]? = some (some x) → ∃ v, σ[i]? = some (some v) ∧ RepV K F x v
/-- what is wanted, of the things that stand for the data -/
def Kk (K : PySem.W.Frag) (F M : Hp) (k : SK) (Q : VK) : Prop := ∀ F' S' H' x v, Same F F' → Sim K F' M S' H' → RepV K F' x v → k x S' → Q v H'
def LE (K : PySem.W.Frag) (t : SE) : TE := fun σ H Q => ∃ F M S ρ k, RepR K F ρ σ ∧ Sim K F M S H ∧ t ρ S k ∧ Kk K F M k Q
def LA (K : PySem.W.Frag) (t : SEs) : TA := fun σ H Q => ∃ F M S ρ k, RepR K F ρ σ ∧ Sim K F M S H ∧ t ρ S k ∧ ∀ F' S' H' xs vs, Same F F' → Sim K F' M S' H' → RepL K F' xs vs → k xs S' → Q vs H'
def LT (K : PySem.W.Frag) (t : Ro → Sto → (Bool → Sto → Prop) → Prop) : TT := fun σ H Q => ∃ F M S ρ k, RepR K F ρ σ ∧ Sim K F M S H ∧ t ρ S k ∧ ∀ F' S' H' b, Same F F' → Sim K F' M S' H' → k b S' → Q b H'
def LO (K : PySem.W.Frag) (t : Ro → Sto → (Option Int → Sto → Prop) → Prop) : TO := fun σ H Q => ∃ F M S ρ k, RepR K F ρ σ ∧ Sim K F M S H ∧ t ρ S k ∧ ∀ F' S' H' o, Same F F' → Sim K F' M S' H' → k o S' → Q o H'
def LR2 (K : PySem.W.Frag) (r : SV → SV → Sto → SK → Prop) : R2 := fun v u H Q => ∃ F M S x y k, RepV K F x v ∧ RepV K F y u ∧ Sim K F M S H ∧ r x y S k ∧ Kk K F M k Q
def LR1 (K : PySem.W.Frag) (r : SV → Sto → SK → Prop) : V → Hp → VK → Prop := fun v H Q => ∃ F M S x k, RepV K F x v ∧ Sim K F M S H ∧ r x S k ∧ Kk K F M k Q
def LRs (K : PySem.W.Frag) (r : List SV → Sto → SK → Prop) : List V → Hp → VK → Prop := fun vs H Q => ∃ F M S xs k, RepL K F xs vs ∧ Sim K F M S H ∧ r xs S k ∧ Kk K F M k Q
def LRm (K : PySem.W.Frag) (r : SV → List SV → Sto → SK → Prop) : V → List V → Hp → VK → Prop := fun v vs H Q => ∃ F M S x xs k, RepV K F x v ∧ RepL K F xs vs ∧ Sim K F M S H ∧ r x xs S k ∧ Kk K F M k Q
def LSp (K : PySem.W.Frag) (c : List SV → Sto → SK → Prop) : Sp := fun vs H Q _ => LRs K c vs H Q

section
variable {K : PySem.W.Frag} {F F' M H : Hp} {S : Sto} {ρ : Ro} {σ : L2.St}
theorem Same.rfl' : Same F F := fun _ _ h => h
theorem RepR.mono (e : Same F F') (h : RepR K F ρ σ) : RepR K F' ρ σ := ⟨h.1, fun i x q => let ⟨v, a, b⟩ := h.2 i x q; ⟨v, a, RepV.mono e _ _ b⟩⟩
theorem RepR.set (h : RepR K F ρ σ) (i : Nat) {x : SV} {v : V} (r : RepV K F x v) : RepR K F (ρ.set i (some x)) (σ.set i (some v)) := by
  refine ⟨by rw [List.length_set, List.length_set, h.1], fun j y e => ?_⟩
  by_cases hj : i = j
  · subst hj
    have hl : i < ρ.length := by
      by_cases hl : i < ρ.length
      · exact hl
      · rw [List.getElem?_eq_none (by rw [List.length_set]; omega)] at e; cases e
    rw [List.getElem?_set_self hl] at e
    cases e
    exact ⟨v, List.getElem?_set_self (by rw [← h.1]; exact hl), r⟩
  · rw [List.getElem?_set_ne hj] at e
    obtain ⟨w, a, b⟩ := h.2 j y e
    exact ⟨w, by rw [List.getElem?_set_ne hj]; exact a, b⟩
theorem RepR.none (h : RepR K F ρ σ) (i : Nat) : RepR K F (ρ.set i Option.none) (σ.set i Option.none) := by
  refine ⟨by rw [List.length_set, List.length_set, h.1], fun j y e => ?_⟩
  by_cases hj : i = j
  · subst hj
    by_cases hl : i < ρ.length
    · rw [List.getElem?_set_self hl] at e; cases e
    · rw [List.getElem?_eq_none (by rw [List.length_set]; omega)] at e; cases e
  · rw [List.getElem?_set_ne hj] at e
    obtain ⟨w, a, b⟩ := h.2 j y e
    exact ⟨w, by rw [List.getElem?_set_ne hj]; exact a, b⟩
theorem RepR.wipe (h : RepR K F ρ σ) : ∀ vs : List Nat, RepR K F (wipeR ρ vs) (L2.wipe σ vs)
  | [] => h
  | v :: vs => RepR.none (RepR.wipe h vs) v
theorem Kk.mono {k : SK} {Q : VK} (e : Same F F') (h : Kk K F M k Q) : Kk K F' M k Q := fun F2 S' H' x v s q r z => h F2 S' H' x v (e.trans s) q r z
theorem Kk.go {k : SK} {Q : VK} (h : Kk K F M k Q) (q : Sim K F M S H) {x : SV} {v : V} (r : RepV K F x v) (z : k x S) : Q v H := h F S H x v Same.rfl' q r z
theorem PE.imp {X : Cx} {e : PySem.Expr} {t t' : TE} (h : PE X e t) (q : ∀ σ H Q, t' σ H Q → t σ H Q) : PE X e t' := ⟨fun pins s σ H Q I z => h.run pins s σ H Q I (q σ H Q z)⟩
theorem PT.imp {X : Cx} {e : PySem.Expr} {t t' : TT} (h : PT X e t) (q : ∀ σ H Q, t' σ H Q → t σ H Q) : PT X e t' := ⟨fun pins s σ H Q I z => h.run pins s σ H Q I (q σ H Q z)⟩
theorem PW.imp {X : Cx} {e : PySem.Expr} {t t' : TT} (h : PW X e t) (q : ∀ σ H Q, t' σ H Q → t σ H Q) : PW X e t' := ⟨fun whole pins s σ H Q I z => h.run whole pins s σ H Q I (q σ H Q z)⟩
theorem PA.imp {X : Cx} {es : List PySem.Expr} {t t' : TA} (h : PA X es t) (q : ∀ σ H Q, t' σ H Q → t σ H Q) : PA X es t' := ⟨fun pos pins s σ H Q I z => h.run pos pins s σ H Q I (q σ H Q z)⟩
theorem PS.imp {X : Cx} {e : PySem.Stmt} {t t' : TS} (h : PS X e t) (q : ∀ D σ H, t' D σ H → t D σ H) : PS X e t' := ⟨fun pins s σ H D I z => h.run pins s σ H D I (q D σ H z)⟩
theorem PSs.imp {X : Cx} {e : List PySem.Stmt} {t t' : TS} (h : PSs X e t) (q : ∀ D σ H, t' D σ H → t D σ H) : PSs X e t' := ⟨fun pins s σ H D I z => h.run pins s σ H D I (q D σ H z)⟩
theorem PO.imp {X : Cx} {e : Option PySem.Expr} {t t' : TO} (h : PO X e t) (q : ∀ σ H Q, t' σ H Q → t σ H Q) : PO X e t' := ⟨fun pins s σ H Q I z => h.run pins s σ H Q I (q σ H Q z)⟩
end

/-! ### lists and tuples as they stand -/
section
variable {K : PySem.W.Frag} {F F' M H : Hp} {S : Sto}
theorem items_rd (q : Sim K F M S H) {x : SV} {v : V} {l : List SV} (r : RepV K F x v) (h : items S x = some l) : ∃ a vs, v = .ref a ∧ Rd H a (.lst vs) ∧ RepL K F l vs := by
  cases x with
  | lst m =>
    cases (show some m = some l from h)
    obtain ⟨a, vs, rfl, h2, h3⟩ := r
    exact ⟨a, vs, rfl, Same.rd q.f h2, h3⟩
  | own a =>
    unfold items at h
    simp only at h
    split at h
    · rename_i m e
      cases h
      obtain ⟨_, u, hu, vs, rfl, h3⟩ := q.s _ _ e
      exact ⟨a, vs, r, .inl hu, h3⟩
    · rename_i o m e
      cases h
      obtain ⟨_, u, hu, vs, rfl, h3⟩ := q.s _ _ e
      exact ⟨a, vs, r, .inr ⟨o, hu⟩, h3⟩
    · cases h
  | _ => cases h
theorem items_l (q : Sim K F M S H) {x : SV} {v : V} {l : List SV} (r : RepV K F x v) (h : items S x = some l) : ∃ a vs, v = .ref a ∧ SqL K H a vs ∧ RepL K F l vs := by
  obtain ⟨a, vs, h1, h2, h3⟩ := items_rd q r h
  exact ⟨a, vs, h1, .inl h2, h3⟩
theorem tup_t (q : Sim K F M S H) {v : V} {l : List SV} (r : RepV K F (.tup l) v) : ∃ a vs, v = .ref a ∧ SqT K H a vs ∧ RepL K F l vs := by
  obtain ⟨a, vs, h1, h2, h3⟩ := r
  exact ⟨a, vs, h1, .inl (.inl (q.f _ _ h2)), h3⟩
theorem tuf_t (q : Sim K F M S H) {v : V} {l : List SV} (r : RepV K F (.tuf l) v) : ∃ a vs, v = .ref a ∧ SqT K H a vs ∧ RepL K F l vs := by
  obtain ⟨a, vs, h1, h2, h3⟩ := r
  exact ⟨a, vs, h1, (TufAt.mono q.f h2).sqT, h3⟩
theorem tupOf_t (q : Sim K F M S H) {x : SV} {v : V} {l : List SV} (r : RepV K F x v) (h : tupOf x = some l) : ∃ a vs, v = .ref a ∧ SqT K H a vs ∧ RepL K F l vs := by
  cases x <;> first | (cases h; done) | skip
  · cases h
    exact tup_t q r
  · cases h
    exact tuf_t q r
theorem seq_lt (q : Sim K F M S H) {x : SV} {v : V} {l : List SV} (r : RepV K F x v) (h : seqOf S x = some l) : ∃ a vs, v = .ref a ∧ (SqL K H a vs ∨ SqT K H a vs) ∧ RepL K F l vs := by
  cases x with
  | tup m =>
    cases (show some m = some l from h)
    obtain ⟨a, vs, h1, h2, h3⟩ := tup_t q r
    exact ⟨a, vs, h1, .inr h2, h3⟩
  | tuf m =>
    cases (show some m = some l from h)
    obtain ⟨a, vs, h1, h2, h3⟩ := r
    exact ⟨a, vs, h1, .inr (TufAt.mono q.f h2).sqT, h3⟩
  | scr m =>
    cases (show some m = some l from h)
    obtain ⟨a, vs, h1, h2, h3⟩ := r
    exact ⟨a, vs, h1, .inl (Same.sqL q.f h2), h3⟩
  | _ =>
    obtain ⟨a, vs, h1, h2, h3⟩ := items_l q r (show items S _ = some l from h)
    exact ⟨a, vs, h1, .inl h2, h3⟩
/-- a new list comes -/
theorem newL_ok {own : Bool} {xs : List SV} {vs : List V} {k : SK} {Q : VK} (q : Sim K F M S H) (r : RepL K F xs vs) (h : newL own xs S k) (kk : Kk K F M k Q) {p : Addr} (hp : H p = none) : Q (.ref p) (upd H p (.lst vs)) := by
  obtain ⟨_, h⟩ := h
  cases own with
  | true =>
    have h' : ∀ p, S p = none → k (.own p) (supd S p (.lst xs)) := by simpa using h
    exact kk F _ _ (.own p) _ Same.rfl' (q.newS (o := .lst xs) hp ⟨vs, rfl, r⟩) rfl (h' p (q.freeS hp))
  | false =>
    have h' : k (.lst xs) S := by simpa using h
    have s1 : Same F (upd F p (.lst vs)) := Same.new (q.freeF hp)
    exact kk _ _ _ (.lst xs) _ s1 (q.newF hp) ⟨p, vs, rfl, .inl upd_same, RepL.mono s1 _ _ r⟩ h'
theorem newT_ok {xs : List SV} {vs : List V} {k : SK} {Q : VK} (q : Sim K F M S H) (r : RepL K F xs vs) (h : k (.tup xs) S) (kk : Kk K F M k Q) {p : Addr} (hp : H p = none) : Q (.ref p) (upd H p (.tup vs)) := by
  have s1 : Same F (upd F p (.tup vs)) := Same.new (q.freeF hp)
  exact kk _ _ _ (.tup xs) _ s1 (q.newF hp) ⟨p, vs, rfl, upd_same, RepL.mono s1 _ _ r⟩ h
theorem cut_rep {xs : List SV} {vs : List V} (r : RepL K F xs vs) (lo hi : Option Int) : RepL K F (cutL xs lo hi) (cutV vs lo hi) := by
  unfold cutL cutV
  rw [r.length]
  exact RepL.take _ (RepL.drop _ r)
end

/-! ### data for == -/
section
variable {K : PySem.W.Frag} {F M H : Hp} {S : Sto}
mutual
theorem toD_ok (f : ∀ a o, F a = some o → H a = some o) : ∀ (x : SV) (v : V) (d : PyData), RepV K F x v → toD x = some d → Dp K H v d
  | .non, v, d, r, h => by
    have e : some PyData.none = some d := by simpa [toD] using h
    cases e
    rw [show v = .non from r]
    exact .non
  | .bl b, v, d, r, h => by
    have e : some (PyData.bool b) = some d := by simpa [toD] using h
    cases e
    rw [show v = .bl b from r]
    exact .bl b
  | .int i, v, d, r, h => by
    have e : some (PyData.int i) = some d := by simpa [toD] using h
    cases e
    rw [show v = .int i from r]
    exact .int i
  | .str s, v, d, r, h => by
    have e : some (PyData.str s) = some d := by simpa [toD] using h
    cases e
    rw [show v = .str s from r]
    exact .str s
  | .tup l, v, d, ⟨a, vs, h1, h2, h3⟩, h => by
    have h' : (toDs l).map PyData.tuple = some d := by simpa [toD] using h
    obtain ⟨ds, e1, e2⟩ := Option.map_eq_some_iff.mp h'
    rw [h1, ← e2]
    exact .tup (.inl (.inl (f _ _ h2))) (toDs_ok f l vs ds h3 e1)
  | .tuf l, v, d, ⟨a, vs, h1, h2, h3⟩, h => by
    have h' : (toDs l).map PyData.tuple = some d := by simpa [toD] using h
    obtain ⟨ds, e1, e2⟩ := Option.map_eq_some_iff.mp h'
    rw [h1, ← e2]
    exact .tup (TufAt.mono f h2).sqT (toDs_ok f l vs ds h3 e1)
  | .lst l, v, d, ⟨a, vs, h1, h2, h3⟩, h => by
    have h' : (toDs l).map PyData.list = some d := by simpa [toD] using h
    obtain ⟨ds, e1, e2⟩ := Option.map_eq_some_iff.mp h'
    rw [h1, ← e2]
    exact .lst (.inl (Same.rd f h2)) (toDs_ok f l vs ds h3 e1)
  | .dK _ _, _, _, _, h => by simp [toD] at h
  | .dT _ _, _, _, _, h => by simp [toD] at h
  | .own _, _, _, _, h => by simp [toD] at h
  | .scr _, _, _, _, h => by simp [toD] at h
  | .lam _ _ _ _, _, _, _, h => by simp [toD] at h
  | .fnv _, _, _, _, h => by simp [toD] at h
theorem toDs_ok (f : ∀ a o, F a = some o → H a = some o) : ∀ (l : List SV) (vs : List V) (ds : List PyData), RepL K F l vs → toDs l = some ds → DpAll K H vs ds
  | [], vs, ds, r, h => by
    have e : some [] = some ds := by simpa [toDs] using h
    cases e
    rw [show vs = [] from r]
    exact .nil
  | x :: l, vs, ds, ⟨v, w, h1, h2, h3⟩, h => by
    have h' : ((toD x).bind fun d => (toDs l).map fun r => d :: r) = some ds := by simpa [toDs] using h
    obtain ⟨d, e1, e2⟩ := Option.bind_eq_some_iff.mp h'
    obtain ⟨r, e3, e4⟩ := Option.map_eq_some_iff.mp e2
    rw [h1, ← e4]
    exact .cons (toD_ok f x v d h2 e1) (toDs_ok f l w r h3 e3)
end
theorem toDS_ok (q : Sim K F M S H) {x : SV} {v : V} {d : PyData} (r : RepV K F x v) (h : toDS S x = some d) : Dp K H v d := by
  cases x with
  | own a =>
    unfold toDS at h
    simp only at h
    split at h
    · rename_i l e
      obtain ⟨ds, e1, e2⟩ := Option.map_eq_some_iff.mp h
      obtain ⟨_, u, hu, vs, rfl, h3⟩ := q.s _ _ e
      rw [show v = .ref a from r, ← e2]
      exact .lst (.inl (.inl hu)) (toDs_ok q.f l vs ds h3 e1)
    · cases h
  | _ => exact toD_ok q.f _ v d r h
end

/-! ### operators -/
section
variable {X : Cx}
theorem OpR.imp {f : Value → Value → Sem Value} {r r' : R2} (h : OpR X f r) (q : ∀ x y H Q, r' x y H Q → r x y H Q) : OpR X f r' := fun pins s σ H x y v u Q I a b z => h pins s σ H x y v u Q I a b (q _ _ _ _ z)
/-- by cases: where the first holds, the first rule, else the second -/
theorem OpR.or {f : Value → Value → Sem Value} {r r1 r2 : R2} (h1 : OpR X f r1) (h2 : OpR X f r2) (q : ∀ x y H Q, r x y H Q → r1 x y H Q ∨ r2 x y H Q) : OpR X f r := fun pins s σ H x y v u Q I a b z => (q _ _ _ _ z).elim (h1 pins s σ H x y v u Q I a b) (h2 pins s σ H x y v u Q I a b)
theorem op_int {f : Value → Value → Sem Value} {Cn : Int → Int → Prop} {g : Int → Int → Int} (h : OpR X f (rI Cn fun i j => V.int (g i j))) : OpR X f (LR2 X.K (opI Cn g)) := by
  refine OpR.imp h fun v u H Q z => ?_
  obtain ⟨F, M, S, x, y, k, rx, ry, q, o, kk⟩ := z
  unfold opI at o
  split at o
  · obtain ⟨o1, o2⟩ := o
    exact ⟨_, _, rx, ry, o1, kk.go q (show RepV X.K F (.int _) (.int _) from rfl) o2⟩
  · cases o
theorem op_int0 {f : Value → Value → Sem Value} {g : Int → Int → Int} (h : OpR X f (rI0 fun i j => V.int (g i j))) : OpR X f (LR2 X.K (opI (fun _ _ => True) g)) := by
  refine OpR.imp h fun v u H Q z => ?_
  obtain ⟨F, M, S, x, y, k, rx, ry, q, o, kk⟩ := z
  unfold opI at o
  split at o
  · exact ⟨_, _, rx, ry, kk.go q (show RepV X.K F (.int _) (.int _) from rfl) o.2⟩
  · cases o
def rCatR : R2 := fun x y H Q => ∃ l b xs zs, x = .ref l ∧ y = .ref b ∧ Rd H l (.lst xs) ∧ Rd H b (.lst zs) ∧ xs.length + zs.length ≤ sizeLine ∧ ∀ p, H p = none → Q (.ref p) (upd H p (.lst (xs ++ zs)))
theorem op_catR : OpR X (binaryOp .Add) rCatR := by
  intro pins s σ H x y v u Q I rx ry h
  obtain ⟨l, b, xs, zs, rfl, rfl, hH, hB, hz, q⟩ := h
  cases rx
  cases ry
  obtain ⟨z, its, n, r, e⟩ := hH.ok I.hok
  obtain ⟨z2, its2, n2, r2, e2⟩ := hB.ok I.hok
  have hl := r.length
  have hl2 := r2.length
  refine PySem.P.add_list e e2 ?_ (by rw [List.size_toArray, List.size_toArray]; omega)
  have ea : its.toArray ++ its2.toArray = (its ++ its2).toArray := by simp
  rw [ea]
  exact ⟨.ref _, _, I.lnew (t' := s.toks) (r.append r2) (by rw [List.length_append]; omega), rfl, q _ I.fresh⟩
theorem op_addS {own : Bool} : OpR X (binaryOp .Add) (LR2 X.K (opAdd own)) := by
  intro pins s σ H v u V U Q I rv ru z
  obtain ⟨F, M, S, x, y, k, rx, ry, q, o, kk⟩ := z
  unfold opAdd at o
  split at o
  · exact op_add pins s σ H v u V U Q I rv ru ⟨_, _, rx, ry, kk.go q (show RepV X.K F (.int _) (.int _) from rfl) o⟩
  · exact op_add_str pins s σ H v u V U Q I rv ru ⟨_, _, rx, ry, o.1, kk.go q (show RepV X.K F (.str _) (.str _) from rfl) o.2⟩
  · rename_i a b
    obtain ⟨p, vs, e1, h1, r1⟩ := tup_t q rx
    obtain ⟨p2, ws, e2, h2, r2⟩ := tup_t q ry
    refine op_catA pins s σ H v u V U Q I rv ru ⟨p, p2, vs, ws, e1, e2, h1, h2, by rw [← r1.length, ← r2.length]; exact o.1, fun hv => ?_, fun _ hw => ?_, fun _ _ n hn => newT_ok q (RepL.append r1 r2) o.2 kk hn⟩
    · have ha : a = [] := List.eq_nil_of_length_eq_zero (by rw [r1.length, hv]; rfl)
      subst ha
      rw [← e2]
      exact kk.go q ry o.2
    · have hb : b = [] := List.eq_nil_of_length_eq_zero (by rw [r2.length, hw]; rfl)
      subst hb
      rw [← e1]
      exact kk.go q rx (by rw [List.append_nil] at o; exact o.2)
  · split at o
    · obtain ⟨a, b, ea, eb, o0, o1, o2, o3⟩ := o
      obtain ⟨p, vs, e1, h1, r1⟩ := tupOf_t q rx ea
      obtain ⟨p2, ws, e2, h2, r2⟩ := tupOf_t q ry eb
      refine op_catA pins s σ H v u V U Q I rv ru ⟨p, p2, vs, ws, e1, e2, h1, h2, by rw [← r1.length, ← r2.length]; exact o0, fun hv => ?_, fun _ hw => ?_, fun _ _ n hn => newT_ok q (RepL.append r1 r2) o1 kk hn⟩
      · have ha : a = [] := List.eq_nil_of_length_eq_zero (by rw [r1.length, hv]; rfl)
        rw [← e2]
        exact kk.go q ry (o3 ha)
      · have hb : b = [] := List.eq_nil_of_length_eq_zero (by rw [r2.length, hw]; rfl)
        rw [← e1]
        exact kk.go q rx (o2 hb)
    · obtain ⟨a, b, ea, eb, o⟩ := o
      obtain ⟨p, vs, e1, h1, r1⟩ := items_rd q rx ea
      obtain ⟨p2, ws, e2, h2, r2⟩ := items_rd q ry eb
      have hz := o.1
      rw [List.length_append] at hz
      exact op_catR pins s σ H v u V U Q I rv ru ⟨p, p2, vs, ws, e1, e2, h1, h2, by rw [← r1.length, ← r2.length]; exact hz, fun n hn => newL_ok q (RepL.append r1 r2) o kk hn⟩
/-- a list times a number, the list just read -/
def rRepR : R2 := fun x y H Q => ∃ l k xs, x = .ref l ∧ y = .int k ∧ Rd H l (.lst xs) ∧ -(2 ^ 63) ≤ k ∧ k < 2 ^ 63 ∧ xs.length * k.toNat ≤ sizeLine ∧
  ∀ p, H p = none → Q (.ref p) (upd H p (.lst (List.replicate k.toNat xs).flatten))
theorem op_repR : OpR X (binaryOp .Mult) rRepR := by
  intro pins s σ H x y v u Q I rx ry h
  obtain ⟨l, k, xs, rfl, rfl, hH, h1, h2, hz, q⟩ := h
  cases rx
  obtain ⟨t, rfl⟩ := ry
  obtain ⟨z, its, n, r, e⟩ := hH.ok I.hok
  have hl := r.length
  have hlen : its.toArray.size * k.toNat ≤ sizeLine := by rw [List.size_toArray, ← hl]; exact hz
  have hcap : ¬ its.toArray.size * k.toNat > (2 ^ 63 - 1) / 8 := by
    have : (sizeLine : Nat) ≤ (2 ^ 63 - 1) / 8 := by decide
    omega
  have hfit : ¬ (!Builtin.List.listFitsIndex k) = true := by
    rw [fitsIndex_both h1 h2]
    exact Bool.false_ne_true
  have hlong : ¬ Builtin.List.listTooLong (its.toArray.size * k.toNat) = true := by
    rw [notLongL hlen]
    exact Bool.false_ne_true
  have hnew : List.foldl (fun x1 x2 => x1 ++ x2) #[] (List.replicate (if its.toArray.isEmpty = true then 0 else k.toNat) its.toArray) = (List.replicate k.toNat its).flatten.toArray := by
    have f0 : ∀ m : Nat, List.foldl (fun x1 x2 => x1 ++ x2) #[] (List.replicate m its.toArray) = (List.replicate m its).flatten.toArray := fun m => by
      have := foldl_rep its m []
      rw [List.nil_append] at this
      exact this
    rw [f0]
    cases its with
    | nil => simp
    | cons a r' => rw [if_neg (by simp)]
  refine wpAny_binaryOp_repeat_ref (T := "list") (U := "int") (by decide) ⟨_, e, rfl⟩ (fun s' => typeIs_int s' k t) noFill_list_mul F.fills_int_mul F.slot_int_rmul repeat_list F.slot_int_index.lookup
    (call_meets F.slot_int_rmul (typeIs_int s k t) F.entry_int_rmul (F.args_int_rmul_2 _ _) (int___rmul___int_list k t l its.toArray n)
      ⟨e, rfl, ⟨_, e, rfl⟩, call_meets F.slot_list_mul ⟨_, e, rfl⟩ F.entry_list_mul (F.args_list_mul_2 _ _) (AutoListH.list___mul___list_int_3 l its.toArray n k t hfit hcap hlong) ⟨e, ?_⟩⟩)
  rw [hnew]
  exact ⟨.ref _, _, I.lnew (t' := s.toks) (r.rep k.toNat) (by rw [PyProof.Rows.lm_len_rep_flat, Nat.mul_comm]; omega), rfl, q _ I.fresh⟩
theorem foldl_repA : ∀ (n : Nat) (l acc : List Nat), List.foldl (fun x1 x2 => x1 ++ x2) acc.toArray (List.replicate n l.toArray) = (acc ++ (List.replicate n l).flatten).toArray
  | 0, l, acc => by simp
  | n + 1, l, acc => by
    rw [List.replicate_succ, List.foldl_cons, List.replicate_succ, List.flatten_cons, ← List.append_assoc, ← foldl_repA n l (acc ++ l)]
    congr 1
    simp
/-- a text times a number -/
theorem op_repStr : OpR X (binaryOp .Mult) (fun x y H Q => ∃ (w : PySem.Str) (j : Int), x = V.str w ∧ y = V.int j ∧ 0 ≤ j ∧ j ≤ 1000 ∧ w.length ≤ 1000 ∧ Q (V.str (repS w j.toNat)) H) := by
  intro pins s σ H x y v u Q I r1 r2 h
  obtain ⟨w, j, e1, e2, h0, h1, h2, q⟩ := h
  subst e1; subst e2
  obtain ⟨t, rfl⟩ := r1
  obtain ⟨t', rfl⟩ := r2
  have hlen : w.length * j.toNat ≤ 1000 * 1000 := Nat.mul_le_mul h2 (by omega)
  have hbig : (1000 * 1000 : Nat) ≤ sizeLine := by decide
  refine PySem.P.mul_str ?_ ?_ ?_ ?_
  · simp only [Bool.or_eq_false_iff, decide_eq_false_iff_not]
    omega
  · intro hn _ hgt
    have h3 : (2 ^ 63 - 1 : Int) / j ≥ (2 ^ 63 - 1) / 1000 := by
      rw [ge_iff_le, Int.le_ediv_iff_mul_le (by omega)]
      have : ((2 ^ 63 - 1 : Int) / 1000) * j ≤ ((2 ^ 63 - 1 : Int) / 1000) * 1000 := Int.mul_le_mul_of_nonneg_left (by omega) (by decide)
      omega
    have : ((2 ^ 63 - 1 : Int) / 1000) = 9223372036854775 := by decide
    omega
  · intro _ _
    unfold Builtin.Str.tooLong
    exact decide_eq_false (by omega)
  · have fin : ∀ w' : PySem.Str, w' = repS w j.toNat → (Made.str w').post (EP X pins σ Q) s := fun w' e => by
      subst e
      refine ⟨?_, V.str _, H, I.tok _, ⟨_, rfl⟩, q⟩
      have : (repS w j.toNat).length = j.toNat * w.length := by
        show (List.replicate j.toNat w.cps.toList).flatten.toArray.size = j.toNat * w.cps.size
        rw [List.size_toArray, List.length_flatten, List.map_replicate, List.sum_replicate_nat, Array.length_toList]
      rw [this, Nat.mul_comm]
      omega
    have hw : w.cps.toList.toArray = w.cps := by simp
    split
    · refine fin _ ?_
      have : j.toNat = 0 := by omega
      rw [this]
      rfl
    · split
      · rename_i hh
        have e : repS w j.toNat = w := by
          unfold repS
          rcases (Bool.or_eq_true _ _).mp hh with z | z
          · have : j.toNat = 1 := by
              have : j = 1 := by simpa using z
              omega
            rw [this]
            simp
          · have : w.cps = #[] := by
              have : w.cps.size = 0 := by simpa [PySem.Str.length] using z
              exact Array.eq_empty_of_size_eq_zero this
            have e2 : w = ⟨#[]⟩ := by cases w; simp_all
            rw [e2]
            simp
        rw [e] at q
        exact ⟨V.str w, H, I, ⟨_, rfl⟩, q⟩
      · refine fin _ ?_
        unfold repS
        congr 1
        have := foldl_repA j.toNat w.cps.toList []
        rw [hw, List.nil_append] at this
        exact this
theorem op_mulS {own : Bool} : OpR X (binaryOp .Mult) (LR2 X.K (opMul own)) := by
  intro pins s σ H v u V U Q I rv ru z
  obtain ⟨F, M, S, x, y, k, rx, ry, q, o, kk⟩ := z
  unfold opMul at o
  split at o
  · exact op_mul pins s σ H v u V U Q I rv ru ⟨_, _, rx, ry, o.1, kk.go q (show RepV X.K F (.int _) (.int _) from rfl) o.2⟩
  · rename_i p j
    obtain ⟨l, hS, h0, h1, h2⟩ := o
    obtain rfl : v = .ref p := rx
    obtain rfl : u = .int j := ry
    obtain ⟨_, uo, hu, vs, rfl, rl⟩ := q.s p _ hS
    have flat : ∀ n : Nat, RepL X.K F (List.replicate n l).flatten (List.replicate n vs).flatten := fun n => by
      induction n with
      | zero => exact rfl
      | succ n ih =>
        rw [List.replicate_succ, List.replicate_succ, List.flatten_cons, List.flatten_cons]
        exact RepL.append rl ih
    have hz : vs.length * j.toNat ≤ sizeLine := by
      have e := (flat j.toNat).length
      have e2 := h2.1
      have e3 : (List.replicate j.toNat vs).flatten.length = vs.length * j.toNat := by
        rw [List.length_flatten, List.map_replicate, List.sum_replicate_nat, Nat.mul_comm]
      omega
    exact op_rep pins s σ H _ _ V U Q I rv ru ⟨p, j, vs, rfl, rfl, hu, by omega, by omega, hz, fun p' hp => newL_ok q (flat j.toNat) h2 kk hp⟩
  · rename_i l j
    obtain ⟨h0, h1, h2⟩ := o
    obtain ⟨p, vs, rfl, hu, rl⟩ := items_rd q rx (show items S (.lst l) = some l from rfl)
    obtain rfl : u = .int j := ry
    have flat : ∀ n : Nat, RepL X.K F (List.replicate n l).flatten (List.replicate n vs).flatten := fun n => by
      induction n with
      | zero => exact rfl
      | succ n ih =>
        rw [List.replicate_succ, List.replicate_succ, List.flatten_cons, List.flatten_cons]
        exact RepL.append rl ih
    have hz : vs.length * j.toNat ≤ sizeLine := by
      have e := (flat j.toNat).length
      have e2 := h2.1
      have e3 : (List.replicate j.toNat vs).flatten.length = vs.length * j.toNat := by
        rw [List.length_flatten, List.map_replicate, List.sum_replicate_nat, Nat.mul_comm]
      omega
    exact op_repR pins s σ H _ _ V U Q I rv ru ⟨p, j, vs, rfl, rfl, hu, by omega, by omega, hz, fun p' hp => newL_ok q (flat j.toNat) h2 kk hp⟩
  · rename_i w j
    obtain ⟨h0, h1, h2, h3⟩ := o
    obtain rfl : v = .str w := rx
    obtain rfl : u = .int j := ry
    exact op_repStr pins s σ H _ _ V U Q I rv ru ⟨w, j, rfl, rfl, h0, h1, h2, kk.go q (show RepV X.K F (.str _) (.str _) from rfl) h3⟩
  · cases o
theorem op_binS {o : Operator} {own : Bool} : OpR X (binaryOp o) (LR2 X.K (binS o own)) := by
  have nope : ∀ o : Operator, OpR X (binaryOp o) (LR2 X.K fun _ _ _ _ => False) := fun o pins s σ H v u V U Q I rv ru z => by
    obtain ⟨_, _, _, _, _, _, _, _, _, z, _⟩ := z
    cases z
  cases o with
  | Add => exact op_addS (own := own)
  | Sub => exact op_int0 op_sub
  | Mult => exact op_mulS (own := own)
  | FloorDiv => exact op_int op_fdivN
  | Mod => exact op_int op_modN
  | Pow => exact op_int op_pow
  | LShift => exact op_int op_shl
  | RShift => exact op_int op_shr
  | BitAnd => exact op_int0 op_and
  | BitOr => exact op_int0 op_or
  | BitXor => exact op_int0 op_xor
  | _ => exact nope _

theorem rep_strL {K : PySem.W.Frag} {F : Hp} : ∀ {l : List SV} {vs : List V} {ys : List Str}, RepL K F l vs → strL l = some ys → vs = ys.map V.str
  | [], vs, n, r, h => by
    have e : some [] = some n := by simpa [strL] using h
    cases e
    exact r
  | .str b :: l, vs, n, ⟨v, w, h1, h2, h3⟩, h => by
    obtain ⟨m, e1, e2⟩ := Option.map_eq_some_iff.mp (show (strL l).map (fun r => b :: r) = some n from h)
    rw [h1, rep_strL h3 e1, ← e2, show v = .str b from h2]
    rfl
  | .non :: _, _, _, _, h => by simp [strL] at h
  | .int _ :: _, _, _, _, h => by simp [strL] at h
  | .bl _ :: _, _, _, _, h => by simp [strL] at h
  | .tup _ :: _, _, _, _, h => by simp [strL] at h
  | .lst _ :: _, _, _, _, h => by simp [strL] at h
  | .dK _ _ :: _, _, _, _, h => by simp [strL] at h
  | .dT _ _ :: _, _, _, _, h => by simp [strL] at h
  | .own _ :: _, _, _, _, h => by simp [strL] at h
  | .scr _ :: _, _, _, _, h => by simp [strL] at h
  | .lam _ _ _ _ :: _, _, _, _, h => by simp [strL] at h
  | .tuf _ :: _, _, _, _, h => by simp [strL] at h
  | .fnv _ :: _, _, _, _, h => by simp [strL] at h
theorem op_ordS {c : CmpOp} {f : Int → Int → Bool} {g : List Nat → List Nat → Bool} {t : List (List Nat) → List (List Nat) → Bool} (h1 : OpR X (compareOp c) (rI0 fun i j => V.bl (f i j)))
    (h2 : OpR X (compareOp c) fun x y H Q => ∃ i j, x = V.str i ∧ y = V.str j ∧ Q (V.bl (g i.cps.toList j.cps.toList)) H) (h3 : OpR X (compareOp c) (rOrdT X.K t)) : OpR X (compareOp c) (LR2 X.K (ordS f g t)) := by
  intro pins s σ H v u V U Q I rv ru z
  obtain ⟨F, M, S, x, y, k, rx, ry, q, o, kk⟩ := z
  unfold ordS at o
  split at o
  · exact h1 pins s σ H v u V U Q I rv ru ⟨_, _, rx, ry, kk.go q (show RepV X.K F (.bl _) (.bl _) from rfl) o⟩
  · exact h2 pins s σ H v u V U Q I rv ru ⟨_, _, rx, ry, kk.go q (show RepV X.K F (.bl _) (.bl _) from rfl) o⟩
  · obtain ⟨l, m, as, bs, t1, t2, t3, t4, o⟩ := o
    obtain ⟨p, vs, rfl, g1, r1⟩ := tupOf_t q rx t1
    obtain ⟨p2, ws, rfl, g2, r2⟩ := tupOf_t q ry t3
    rw [rep_strL r1 t2] at g1
    rw [rep_strL r2 t4] at g2
    exact h3 pins s σ H _ _ V U Q I rv ru ⟨p, p2, as, bs, rfl, rfl, g1, g2, kk.go q (show RepV X.K F (.bl _) (.bl _) from rfl) o⟩
theorem list_le_iff (a b : List Nat) : (!decide (b < a)) = decide (a ≤ b) := by
  by_cases h : b < a
  · have : ¬ a ≤ b := fun z => by exact (List.not_le.mpr h) z
    simp [h, this]
  · have : a ≤ b := List.not_lt.mp h
    simp [h, this]

def rInT (K : PySem.W.Frag) (neg : Bool) : R2 := fun x y H Q => ∃ d ds, Dp K H x d ∧ (Dp K H y (.list ds) ∨ Dp K H y (.tuple ds)) ∧ SeqAt.shaped d = true ∧ SeqAt.shaped (.list ds) = true ∧ Q (.bl (xor neg (ds.any fun z => PyData.eqv z d))) H
theorem op_inT (hu : X.A.units + 65 < cLine) : OpR X (compareOp .In) (rInT X.K false) := by
  intro pins s σ H x y v u Q I rx ry h
  obtain ⟨d, ds, hd, he, sd, se, q⟩ := h
  rw [Bool.false_xor] at q
  obtain ⟨as, r1⟩ := Dp.reads I d x v hd rx
  rcases he with he | he
  · exact op_inD hu pins s σ H x y v u Q I rx ry ⟨d, ds, hd, he, sd, se, q⟩
  · obtain ⟨bs, r2⟩ := Dp.reads I (.tuple ds) y u he ry
    exact SeqAt.in_tuple_reads r2 r1 (SeqAt.canLay_of_shaped se) (SeqAt.canLay_of_shaped sd) (room_in_shaped sd hu) ⟨.bl _, H, I, rfl, q⟩
theorem op_notInT (hu : X.A.units + 65 < cLine) : OpR X (compareOp .NotIn) (rInT X.K true) := by
  intro pins s σ H x y v u Q I rx ry h
  obtain ⟨d, ds, hd, he, sd, se, q⟩ := h
  rw [Bool.true_xor] at q
  obtain ⟨as, r1⟩ := Dp.reads I d x v hd rx
  rcases he with he | he
  · exact op_notInD hu pins s σ H x y v u Q I rx ry ⟨d, ds, hd, he, sd, se, q⟩
  · obtain ⟨bs, r2⟩ := Dp.reads I (.tuple ds) y u he ry
    exact SeqAt.notIn_tuple_reads r2 r1 (SeqAt.canLay_of_shaped se) (SeqAt.canLay_of_shaped sd) (room_in_shaped sd hu) ⟨.bl _, H, I, rfl, q⟩
theorem seq_dp {K : PySem.W.Frag} {F M H : Hp} {S : Sto} (q : Sim K F M S H) {x : SV} {v : V} {l : List SV} {ds : List PyData} (r : RepV K F x v) (h : seqOf S x = some l) (e : toDs l = some ds) : Dp K H v (.list ds) ∨ Dp K H v (.tuple ds) := by
  obtain ⟨a, vs, rfl, h1 | h1, h2⟩ := seq_lt q r h
  · exact .inl (.lst h1 (toDs_ok q.f l vs ds h2 e))
  · exact .inr (.tup h1 (toDs_ok q.f l vs ds h2 e))
/-! dicts -/
theorem keyOf_ok {K : PySem.W.Frag} {F : Hp} {x : SV} {v : V} {k : Key} (r : RepV K F x v) (h : keyOf x = some k) : v = kV k := by
  cases x <;> first | (cases h; done) | skip
  · cases h
    exact r
  · cases h
    exact r
theorem keysOf_ok {K : PySem.W.Frag} {F : Hp} : ∀ {l : List SV} {vs : List V} {ks : List Key}, RepL K F l vs → keysOf l = some ks → vs = ks.map kV
  | [], vs, ks, r, h => by
    cases h
    exact r
  | x :: l, vs, ks, ⟨v, w, h1, h2, h3⟩, h => by
    have h' : ((keyOf x).bind fun k => (keysOf l).map fun r => k :: r) = some ks := h
    obtain ⟨k, e1, e2⟩ := Option.bind_eq_some_iff.mp h'
    obtain ⟨q, e3, e4⟩ := Option.map_eq_some_iff.mp e2
    rw [h1, ← e4, List.map_cons, keyOf_ok h2 e1, keysOf_ok h3 e3]
theorem tKey_ok {K : PySem.W.Frag} {F M H : Hp} {S : Sto} (q : Sim K F M S H) {x : SV} {v : V} {k : List Key} (r : RepV K F x v) (h : tKey x = some k) : ∃ b, v = .ref b ∧ H b = some (.tup (k.map kV)) := by
  cases x <;> first | (cases h; done) | skip
  obtain ⟨a, vs, h1, h2, h3⟩ := r
  rw [keysOf_ok h3 h] at h2
  exact ⟨a, h1, q.f _ _ h2⟩
section
variable {κ : Type} [DecidableEq κ] {K : PySem.W.Frag} {F : Hp}
theorem getX_ok : ∀ {ks : List κ} {l : List SV} {vs : List V} {k : κ}, RepL K F l vs → ks.length = vs.length → (∀ x, getX ks l k = some x → ∃ w, valV (ks.zip vs) k = some w ∧ RepV K F x w) ∧ (getX ks l k = none → valV (ks.zip vs) k = none)
  | [], l, vs, k, r, e => by
    refine ⟨fun x h => ?_, fun _ => ?_⟩
    · unfold getX at h
      cases h
    · rw [List.zip_nil_left]
      rfl
  | a :: ks, [], vs, k, r, e => by
    rw [show vs = [] from r] at e
    cases e
  | a :: ks, x :: l, vs, k, ⟨v, w, h1, h2, h3⟩, e => by
    subst h1
    obtain ⟨g1, g2⟩ := getX_ok (ks := ks) (k := k) h3 (by simpa using e)
    rw [List.zip_cons_cons]
    by_cases ha : a = k
    · rw [valV_pos (p := (a, v)) ha]
      unfold getX
      rw [if_pos ha]
      exact ⟨fun y h => ⟨v, rfl, by cases h; exact h2⟩, fun h => (by cases h)⟩
    · rw [valV_neg (p := (a, v)) ha]
      unfold getX
      rw [if_neg ha]
      exact ⟨g1, g2⟩
theorem putX_ok {ks : List κ} {l : List SV} {vs : List V} {k : κ} {x : SV} {v : V} (r : RepL K F l vs) (e : ks.length = vs.length) (rv : RepV K F x v) : ∃ ws, putK (ks.zip vs) k v = (putX ks l k x).1.zip ws ∧ (putX ks l k x).1.length = ws.length ∧ RepL K F (putX ks l k x).2 ws := by
  have hany : (((ks.zip vs).any fun kv => decide (kv.1 = k)) = true) ↔ k ∈ ks := by
    rw [List.any_eq_true]
    constructor
    · rintro ⟨p, hp, hk⟩
      rw [← of_decide_eq_true hk]
      exact (List.of_mem_zip (a := p.1) (b := p.2) hp).1
    · intro hk
      obtain ⟨i, hi⟩ := List.mem_iff_getElem?.mp hk
      have hi' := (List.getElem?_eq_some_iff.mp hi).1
      refine ⟨(k, vs[i]'(by omega)), ?_, decide_eq_true rfl⟩
      refine List.mem_iff_getElem?.mpr ⟨i, ?_⟩
      rw [List.getElem?_zip_eq_some]
      exact ⟨hi, by simp⟩
  unfold putK putX
  by_cases hk : k ∈ ks
  · rw [if_pos (hany.mpr hk), if_pos hk]
    have go : ∀ {ks : List κ} {l : List SV} {vs : List V}, RepL K F l vs → ks.length = vs.length → (ks.zip vs).map (fun kv => if kv.1 = k then (kv.1, v) else kv) = ks.zip (List.zipWith (fun a w => if a = k then v else w) ks vs) ∧ ks.length = (List.zipWith (fun a w => if a = k then v else w) ks vs).length ∧ RepL K F (List.zipWith (fun a y => if a = k then x else y) ks l) (List.zipWith (fun a w => if a = k then v else w) ks vs) := by
      intro ks
      induction ks with
      | nil =>
        intro l vs r e
        refine ⟨by simp, by simp, ?_⟩
        rw [List.zipWith_nil_left, List.zipWith_nil_left]
        rfl
      | cons a ks ih =>
        intro l vs r e
        cases l with
        | nil =>
          rw [show vs = [] from r] at e
          cases e
        | cons y l =>
          obtain ⟨u, w, h1, h2, h3⟩ := r
          subst h1
          obtain ⟨i1, i2, i3⟩ := ih h3 (by simpa using e)
          refine ⟨?_, ?_, ?_⟩
          · rw [List.zip_cons_cons, List.map_cons, List.zipWith_cons_cons, List.zip_cons_cons, i1]
            by_cases ha : a = k <;> simp [ha]
          · rw [List.zipWith_cons_cons, List.length_cons, List.length_cons, ← i2]
          · rw [List.zipWith_cons_cons, List.zipWith_cons_cons]
            refine ⟨_, _, rfl, ?_, i3⟩
            by_cases ha : a = k
            · rw [if_pos ha, if_pos ha]
              exact rv
            · rw [if_neg ha, if_neg ha]
              exact h2
    obtain ⟨g1, g2, g3⟩ := go r e
    exact ⟨_, g1, g2, g3⟩
  · rw [if_neg (fun z => hk (hany.mp z)), if_neg hk]
    exact ⟨vs ++ [v], by rw [List.zip_append e]; rfl, by simp [e], RepL.append r (RepL.single rv)⟩
end
section
variable {K : PySem.W.Frag} {F M H : Hp} {S : Sto}
theorem dic_rd (q : Sim K F M S H) {x : SV} {v : V} {d : SO} (r : RepV K F x v) (h : dicS S x = some d) : ∃ a u, v = .ref a ∧ Rd H a u ∧ RepO K F d u ∧ ((∃ ks l, d = .dK ks l) ∨ ∃ ks l, d = .dT ks l) := by
  cases x <;> first | (cases h; done) | skip
  · cases h
    obtain ⟨a, vs, h1, h2, h3, h4⟩ := r
    exact ⟨a, _, h1, .inl (q.f _ _ h2), ⟨vs, rfl, h3, h4⟩, .inl ⟨_, _, rfl⟩⟩
  · cases h
    obtain ⟨a, vs, h1, h2, h3, h4⟩ := r
    exact ⟨a, _, h1, .inl (q.f _ _ h2), ⟨vs, rfl, h3, h4⟩, .inr ⟨_, _, rfl⟩⟩
  · rename_i a
    unfold dicS at h
    simp only at h
    split at h
    · rename_i ks l e
      cases h
      obtain ⟨_, u, hu, hr⟩ := q.s _ _ e
      exact ⟨a, u, r, .inl hu, hr, .inl ⟨_, _, rfl⟩⟩
    · rename_i ks l e
      cases h
      obtain ⟨_, u, hu, hr⟩ := q.s _ _ e
      exact ⟨a, u, r, .inl hu, hr, .inr ⟨_, _, rfl⟩⟩
    · rename_i od us ks l e
      cases h
      obtain ⟨_, u, hu, rfl, hl, hr⟩ := q.s _ _ e
      exact ⟨a, _, r, .inr ⟨od, hu⟩, ⟨us, rfl, hl, hr⟩, .inl ⟨_, _, rfl⟩⟩
    · cases h
theorem get_ok (q : Sim K F M S H) {x y : SV} {v u : V} {d : SO} {o : Option SV} (r : RepV K F x v) (ry : RepV K F y u) (h : dicS S x = some d) (g : getD d y = some o) : ∃ a o', v = .ref a ∧ DGet H a u o' ∧ o'.isSome = o.isSome ∧ ∀ z, o = some z → ∃ w, o' = some w ∧ RepV K F z w := by
  obtain ⟨a, w, e1, h1, h2, h3⟩ := dic_rd q r h
  rcases h3 with ⟨ks, l, rfl⟩ | ⟨ks, l, rfl⟩
  · obtain ⟨vs, rfl, hz, hl⟩ := h2
    obtain ⟨k, g1, g2⟩ := Option.map_eq_some_iff.mp g
    obtain ⟨q1, q2⟩ := getX_ok (k := k) hl hz
    refine ⟨a, _, e1, .inl ⟨_, k, h1, keyOf_ok ry g1, rfl⟩, ?_, fun z hz => ?_⟩
    · cases ho : getX ks l k with
      | none =>
        rw [q2 ho, ← g2, ho]
        rfl
      | some z =>
        obtain ⟨w, w1, _⟩ := q1 z ho
        rw [w1, ← g2, ho]
        rfl
    · rw [hz] at g2
      exact q1 z g2
  · obtain ⟨vs, rfl, hz, hl⟩ := h2
    obtain ⟨k, g1, g2⟩ := Option.map_eq_some_iff.mp g
    obtain ⟨q1, q2⟩ := getX_ok (k := k) hl hz
    obtain ⟨b, b1, b2⟩ := tKey_ok q ry g1
    refine ⟨a, _, e1, .inr ⟨_, k, b, h1, b1, b2, rfl⟩, ?_, fun z hz => ?_⟩
    · cases ho : getX ks l k with
      | none =>
        rw [q2 ho, ← g2, ho]
        rfl
      | some z =>
        obtain ⟨w, w1, _⟩ := q1 z ho
        rw [w1, ← g2, ho]
        rfl
    · rw [hz] at g2
      exact q1 z g2
end
def rInDk (neg : Bool) : R2 := fun x y H Q => ∃ a o, y = .ref a ∧ DGet H a x o ∧ Q (.bl (xor neg o.isSome)) H
theorem op_inDk (hu : X.A.units + 1 < cLine) : OpR X (compareOp .In) (rInDk false) := by
  intro pins s σ H x y v u Q I rx ry h
  obtain ⟨a, o, rfl, g, q⟩ := h
  cases (show u = Value.ref a from ry)
  exact d_in hu I g rx fun s' I' => ⟨.bl o.isSome, H, I', rfl, by rw [Bool.false_xor] at q; exact q⟩
theorem op_notInDk (hu : X.A.units + 1 < cLine) : OpR X (compareOp .NotIn) (rInDk true) := by
  intro pins s σ H x y v u Q I rx ry h
  obtain ⟨a, o, rfl, g, q⟩ := h
  cases (show u = Value.ref a from ry)
  exact d_notIn hu I g rx fun s' I' => ⟨.bl (!o.isSome), H, I', rfl, by rw [Bool.true_xor] at q; exact q⟩
theorem op_inK {neg : Bool} {c : CmpOp} (h1 : OpR X (compareOp c) (rInT X.K neg)) (h2 : OpR X (compareOp c) fun x y H Q => ∃ c z, x = V.str ⟨#[c]⟩ ∧ y = V.str z ∧ Q (V.bl (xor neg (decide (c ∈ z.cps.toList)))) H) (h3 : OpR X (compareOp c) (rInDk neg)) : OpR X (compareOp c) (LR2 X.K (inK neg)) := by
  intro pins s σ H v u V U Q I rv ru z
  obtain ⟨F, M, S, x, y, k, rx, ry, q, o, kk⟩ := z
  unfold inK at o
  split at o
  · obtain ⟨n, rfl, o⟩ := o
    exact h2 pins s σ H v u V U Q I rv ru ⟨_, _, rx, ry, kk.go q (show RepV X.K F (.bl _) (.bl _) from rfl) o⟩
  · split at o
    · rename_i d hd
      obtain ⟨w, g, o⟩ := o
      obtain ⟨a, o', e1, g1, g2, _⟩ := get_ok q ry rx hd g
      exact h3 pins s σ H v u V U Q I rv ru ⟨a, o', e1, g1, by rw [g2]; exact kk.go q (show RepV X.K F (.bl _) (.bl _) from rfl) o⟩
    · obtain ⟨l, hl, d, ds, e1, e2, s1, s2, o⟩ := o
      exact h1 pins s σ H v u V U Q I rv ru ⟨d, ds, toD_ok q.f _ _ d rx e1, seq_dp q ry hl e2, s1, s2, kk.go q (show RepV X.K F (.bl _) (.bl _) from rfl) o⟩
theorem toDT_ok {K : PySem.W.Frag} {F M H : Hp} {S : Sto} (q : Sim K F M S H) {x : SV} {v : V} {d : PyData} (r : RepV K F x v) (h : toDT S x = some d) : Dp K H v d := by
  unfold toDT at h
  split at h
  · rename_i a b
    split at h
    · cases h
    · obtain ⟨d1, e1, e2⟩ := Option.bind_eq_some_iff.mp h
      obtain ⟨d2, e3, e4⟩ := Option.map_eq_some_iff.mp e2
      obtain ⟨p, vs, h1, h2, h3⟩ := r
      obtain ⟨v1, w1, rfl, r1, v2, w2, rfl, r2, r3⟩ := h3
      obtain rfl : w2 = [] := r3
      rw [h1, ← e4]
      exact .tup (.inl (.inl (q.f _ _ h2))) (.cons (toDS_ok q r1 e1) (.cons (toDS_ok q r2 e3) .nil))
  · cases h
theorem toDQ_ok {K : PySem.W.Frag} {F M H : Hp} {S : Sto} (q : Sim K F M S H) {x : SV} {v : V} {d : PyData} (r : RepV K F x v) (h : toDS S x = some d ∨ toDT S x = some d) : Dp K H v d := by
  rcases h with h | h
  · exact toDS_ok q r h
  · exact toDT_ok q r h
theorem op_eqS (hu : X.A.units + 64 < cLine) : OpR X (compareOp .Eq) (LR2 X.K fun x y S k => eqS S x y fun b => k (.bl b) S) := OpR.imp (op_eqD hu) fun v u H Q z => by
  obtain ⟨F, M, S, x, y, k, rx, ry, q, ⟨d, e, e1, e2, s1, s2, o⟩, kk⟩ := z
  exact ⟨d, e, toDQ_ok q rx e1, toDQ_ok q ry e2, s1, s2, kk.go q (show RepV X.K F (.bl _) (.bl _) from rfl) o⟩
theorem op_neS (hu : X.A.units + 64 < cLine) : OpR X (compareOp .NotEq) (LR2 X.K fun x y S k => eqS S x y fun b => k (.bl !b) S) := OpR.imp (op_neD hu) fun v u H Q z => by
  obtain ⟨F, M, S, x, y, k, rx, ry, q, ⟨d, e, e1, e2, s1, s2, o⟩, kk⟩ := z
  exact ⟨d, e, toDQ_ok q rx e1, toDQ_ok q ry e2, s1, s2, kk.go q (show RepV X.K F (.bl _) (.bl _) from rfl) o⟩
theorem isN_rep {K : PySem.W.Frag} {F : Hp} {x : SV} {v : V} (r : RepV K F x v) : decide (v = .non) = isN x := by
  cases x <;> first
    | (rw [show v = _ from r]; rfl)
    | (rw [show v = _ from r.1]; rfl)
    | (obtain ⟨_, rfl, _⟩ := r; rfl)
    | (obtain ⟨_, _, rfl, _⟩ := r; rfl)
theorem op_cmpS {k : Nat} (hr : Room k X.A) (o : CmpOp) : OpR X (compareOp o) (LR2 X.K (cmpS o)) := by
  have h64 := hr.units
  have h65 : X.A.units + 65 < cLine := by have := hr.un; omega
  have nope : ∀ o : CmpOp, OpR X (compareOp o) (LR2 X.K fun _ _ _ _ => False) := fun o pins s σ H v u V U Q I rv ru z => by
    obtain ⟨_, _, _, _, _, _, _, _, _, z, _⟩ := z
    cases z
  cases o with
  | Eq => exact op_eqS h64
  | NotEq => exact op_neS h64
  | Lt => exact op_ordS (f := fun i j => decide (i < j)) (g := fun a b => decide (a < b)) op_lt op_lt_str (op_ltTS (by omega))
  | LtE => exact op_ordS (f := fun i j => decide (i ≤ j)) (g := fun a b => decide (a ≤ b)) op_le (OpR.imp op_le_str fun x y H Q ⟨i, j, e1, e2, q⟩ => ⟨i, j, e1, e2, by rw [← list_le_iff] at q; exact q⟩) (op_leTS (by omega))
  | Gt => exact op_ordS (f := fun i j => decide (j < i)) (g := fun a b => decide (b < a)) op_gt op_gt_str (op_gtTS (by omega))
  | GtE => exact op_ordS (f := fun i j => decide (j ≤ i)) (g := fun a b => decide (b ≤ a)) op_ge (OpR.imp op_ge_str fun x y H Q ⟨i, j, e1, e2, q⟩ => ⟨i, j, e1, e2, by rw [← list_le_iff] at q; exact q⟩) (op_geTS (by omega))
  | In => exact op_inK (op_inT h65) (OpR.imp op_in_sign fun x y H Q ⟨c, z, e1, e2, q⟩ => ⟨c, z, e1, e2, by rw [Bool.false_xor] at q; exact q⟩) (op_inDk (by omega))
  | NotIn => exact op_inK (op_notInT h65) (OpR.imp op_notIn_sign fun x y H Q ⟨c, z, e1, e2, q⟩ => ⟨c, z, e1, e2, by rw [Bool.true_xor] at q; exact q⟩) (op_notInDk (by omega))
  | Is =>
    intro pins s σ H v u V U Q I rv ru z
    obtain ⟨F, M, S, x, y, k, rx, ry, q, o, kk⟩ := z
    cases y with
    | bl b =>
      obtain ⟨a, rfl, o⟩ := o
      exact op_isBl pins s σ H v u V U Q I rv ru ⟨a, b, rx, ry, kk.go q (show RepV X.K F (.bl _) (.bl _) from rfl) o⟩
    | _ =>
      obtain ⟨h, o⟩ := o
      first
        | (cases h; done)
        | exact op_isN pins s σ H v u V U Q I rv ru ⟨ry, by rw [isN_rep rx]; exact kk.go q (show RepV X.K F (.bl _) (.bl _) from rfl) o⟩
  | IsNot =>
    intro pins s σ H v u V U Q I rv ru z
    obtain ⟨F, M, S, x, y, k, rx, ry, q, o, kk⟩ := z
    cases y with
    | bl b =>
      obtain ⟨a, rfl, o⟩ := o
      exact op_notBl pins s σ H v u V U Q I rv ru ⟨a, b, rx, ry, kk.go q (show RepV X.K F (.bl _) (.bl _) from rfl) o⟩
    | _ =>
      obtain ⟨h, o⟩ := o
      first
        | (cases h; done)
        | exact op_notN pins s σ H v u V U Q I rv ru ⟨ry, by rw [isN_rep rx]; exact kk.go q (show RepV X.K F (.bl _) (.bl _) from rfl) o⟩
/-! ### items, parts -/
theorem atI_rep {K : PySem.W.Frag} {F : Hp} {l : List SV} {vs : List V} {i : Int} {x : SV} (r : RepL K F l vs) (h : atI l i = some x) : ∃ v, atI vs i = some v ∧ RepV K F x v := by
  unfold atI at h ⊢
  rw [r.length] at h
  obtain ⟨j, h1, h2⟩ := Option.bind_eq_some_iff.mp h
  obtain ⟨v, h3, h4⟩ := RepL.get r h2
  exact ⟨v, Option.bind_eq_some_iff.mpr ⟨j, h1, h3⟩, h4⟩
def rIxD : R2 := fun x y H Q => ∃ a v, x = .ref a ∧ DGet H a y (some v) ∧ Q v H
theorem ix_dict (hu : X.A.units + 1 < cLine) : IxR X rIxD := by
  intro value slice pins s σ H x y v u Q I rx ry h hs
  obtain ⟨a, z, rfl, g, q⟩ := h
  obtain rfl : v = Value.ref a := rx
  exact tail_any (dict_typeIs I g) PySem.F.slot_dict_getitem.lookup (d_getItem hu I g ry fun w' s' I' rw' => ⟨z, H, I', rw', q⟩) hs
theorem ix_S (hu : X.A.units + 1 < cLine) : IxR X (LR2 X.K idxS) := by
  intro ea eb pins s σ H v u V U Q I rv ru z hpl
  obtain ⟨F, M, S, x, y, k, rx, ry, q, o, kk⟩ := z
  unfold idxS at o
  split at o
  · obtain ⟨o1, c, o2, o3⟩ := o
    refine ix_str ea eb pins s σ H v u V U Q I rv ru ⟨_, _, c, rx, ry, o1, o2, kk.go q (show RepV X.K F (.str _) (.str _) from rfl) o3⟩ hpl
  · split at o
    · rename_i d hd
      obtain ⟨w, g, o⟩ := o
      obtain ⟨a, o', e1, g1, g2, g3⟩ := get_ok q rx ry hd g
      obtain ⟨z, rfl, z2⟩ := g3 w rfl
      exact ix_dict hu ea eb pins s σ H v u V U Q I rv ru ⟨a, z, e1, g1, kk.go q z2 o⟩ hpl
    · obtain ⟨i, l, w, rfl, o1, o2, o3⟩ := o
      obtain ⟨a, vs, e1, h1 | h1, r1⟩ := seq_lt q rx o1
      · obtain ⟨z, z1, z2⟩ := atI_rep r1 o2
        refine ix_list ea eb pins s σ H v u V U Q I rv ru ⟨a, vs, _, z, e1, ry, h1, z1, kk.go q z2 o3⟩ hpl
      · obtain ⟨z, z1, z2⟩ := atI_rep r1 o2
        refine ix_tup ea eb pins s σ H v u V U Q I rv ru ⟨a, vs, _, z, e1, ry, h1, z1, kk.go q z2 o3⟩ hpl
def LSl (K : PySem.W.Frag) (r : SV → Option Int → Option Int → Sto → SK → Prop) : V → Option Int → Option Int → Hp → VK → Prop := fun v lo hi H Q => ∃ F M S x k, RepV K F x v ∧ Sim K F M S H ∧ r x lo hi S k ∧ Kk K F M k Q
theorem sl_S {own : Bool} : SlR X (LSl X.K (slS own)) := by
  intro pins s σ H v V vl vu lo hi sl Q I rv hs pl pu z
  obtain ⟨F, M, S, x, k, rx, q, o, kk⟩ := z
  unfold slS at o
  split at o
  · exact sl_str pins s σ H v V vl vu lo hi sl Q I rv hs pl pu ⟨_, rx, o.1, kk.go q (show RepV X.K F (.str _) (.str _) from rfl) o.2⟩
  · rename_i l
    obtain ⟨a, vs, e1, h1, r1⟩ := tup_t q rx
    refine sl_tupA pins s σ H v V vl vu lo hi sl Q I rv hs pl pu ⟨a, vs, e1, h1, fun w => ?_, fun _ p hp => newT_ok q (cut_rep r1 lo hi) o kk hp⟩
    have e : cutL l lo hi = l := by
      unfold cutL
      rw [r1.length, w.1, w.2, List.drop_zero, Nat.sub_zero, ← r1.length, List.take_length]
    rw [e] at o
    rw [← e1]
    exact kk.go q rx o
  · rename_i l
    obtain ⟨a, vs, e1, h1, r1⟩ := tuf_t q rx
    refine sl_tupA pins s σ H v V vl vu lo hi sl Q I rv hs pl pu ⟨a, vs, e1, h1, fun w => ?_, fun _ p hp => newT_ok q (cut_rep r1 lo hi) o.1 kk hp⟩
    have e : cutL l lo hi = l := by
      unfold cutL
      rw [r1.length, w.1, w.2, List.drop_zero, Nat.sub_zero, ← r1.length, List.take_length]
    rw [← e1]
    exact kk.go q rx (o.2 e)
  · obtain ⟨a, vs, e1, h1, r1⟩ := rx
    exact sl_list pins s σ H v V vl vu lo hi sl Q I rv hs pl pu ⟨a, vs, e1, Same.sqL q.f h1, fun p hp => newL_ok q (cut_rep r1 lo hi) o kk hp⟩
  · obtain ⟨l, o1, o2⟩ := o
    obtain ⟨a, vs, e1, h1, r1⟩ := items_l q rx o1
    exact sl_list pins s σ H v V vl vu lo hi sl Q I rv hs pl pu ⟨a, vs, e1, h1, fun p hp => newL_ok q (cut_rep r1 lo hi) o2 kk hp⟩
/-! ### calls of what is built in -/
theorem rep_ints {K : PySem.W.Frag} {F : Hp} : ∀ {l : List SV} {vs : List V} {n : Int}, RepL K F l vs → sumI l = some n → ∃ ns : List Int, vs = ns.map V.int ∧ ns.sum = n
  | [], vs, n, r, h => ⟨[], by rw [show vs = [] from r]; rfl, by simpa [sumI] using h⟩
  | .int i :: l, vs, n, ⟨v, w, h1, h2, h3⟩, h => by
    obtain ⟨m, e1, e2⟩ := Option.map_eq_some_iff.mp (show (sumI l).map (fun r => i + r) = some n from h)
    obtain ⟨ns, q1, q2⟩ := rep_ints h3 e1
    exact ⟨i :: ns, by rw [h1, q1, show v = .int i from h2]; rfl, by rw [List.sum_cons, q2, e2]⟩
  | .non :: _, _, _, _, h => by simp [sumI] at h
  | .bl _ :: _, _, _, _, h => by simp [sumI] at h
  | .str _ :: _, _, _, _, h => by simp [sumI] at h
  | .tup _ :: _, _, _, _, h => by simp [sumI] at h
  | .lst _ :: _, _, _, _, h => by simp [sumI] at h
  | .dK _ _ :: _, _, _, _, h => by simp [sumI] at h
  | .dT _ _ :: _, _, _, _, h => by simp [sumI] at h
  | .own _ :: _, _, _, _, h => by simp [sumI] at h
  | .scr _ :: _, _, _, _, h => by simp [sumI] at h
  | .lam _ _ _ _ :: _, _, _, _, h => by simp [sumI] at h
  | .tuf _ :: _, _, _, _, h => by simp [sumI] at h
  | .fnv _ :: _, _, _, _, h => by simp [sumI] at h
theorem rep_bls {K : PySem.W.Frag} {F : Hp} : ∀ {l : List SV} {vs : List V} {bs : List Bool}, RepL K F l vs → allB l = some bs → vs = bs.map V.bl
  | [], vs, n, r, h => by
    have e : some [] = some n := by simpa [allB] using h
    cases e
    exact r
  | .bl b :: l, vs, n, ⟨v, w, h1, h2, h3⟩, h => by
    obtain ⟨m, e1, e2⟩ := Option.map_eq_some_iff.mp (show (allB l).map (fun r => b :: r) = some n from h)
    rw [h1, rep_bls h3 e1, ← e2, show v = .bl b from h2]
    rfl
  | .non :: _, _, _, _, h => by simp [allB] at h
  | .int _ :: _, _, _, _, h => by simp [allB] at h
  | .str _ :: _, _, _, _, h => by simp [allB] at h
  | .tup _ :: _, _, _, _, h => by simp [allB] at h
  | .lst _ :: _, _, _, _, h => by simp [allB] at h
  | .dK _ _ :: _, _, _, _, h => by simp [allB] at h
  | .dT _ _ :: _, _, _, _, h => by simp [allB] at h
  | .own _ :: _, _, _, _, h => by simp [allB] at h
  | .scr _ :: _, _, _, _, h => by simp [allB] at h
  | .lam _ _ _ _ :: _, _, _, _, h => by simp [allB] at h
  | .tuf _ :: _, _, _, _, h => by simp [allB] at h
  | .fnv _ :: _, _, _, _, h => by simp [allB] at h
theorem RepL.one {K : PySem.W.Frag} {F : Hp} {x : SV} {vs : List V} (r : RepL K F [x] vs) : ∃ v, vs = [v] ∧ RepV K F x v := by
  obtain ⟨v, w, h1, h2, h3⟩ := r
  exact ⟨v, by rw [h1, show w = [] from h3], h2⟩
theorem RepL.two {K : PySem.W.Frag} {F : Hp} {x y : SV} {vs : List V} (r : RepL K F [x, y] vs) : ∃ v u, vs = [v, u] ∧ RepV K F x v ∧ RepV K F y u := by
  obtain ⟨v, w, h1, h2, h3⟩ := r
  obtain ⟨u, e, h4⟩ := RepL.one h3
  exact ⟨v, u, by rw [h1, e], h2, h4⟩
end
end Sy

namespace Sy
open PySem PySem.Spec PyProof.Rows L2
open PySem.SeqAt

/-! rows are sorted, an empty one too (tuples) -/
section
variable {prog : Program} {w : World} {A : Around} {E : Value → Shared → Prop} {s : Shared}
theorem lt_gen (x y : Value) : PyProof.Rows.keyLt' PyProof.Rows.general' x y = oneLt' false x y := rfl
theorem call_tuple_lt {Q : Value → Shared → Prop} {l b : Addr} {items items2 : Array Value} {e r : Nat → Bool} (hl : s.heap.IsTuple l items) (hb : s.heap.IsTuple b items2)
    (he : ∀ j (h1 : j < items.size) (h2 : j < items2.size), EqAt A.in1 s items[j] items2[j] (e j)) (hr : ∀ j (h1 : j < items.size) (h2 : j < items2.size), e j = false → RcLt A.in1 s items[j] items2[j] (r j))
    (h : Q (.bool (firstLt e r (decide (items.size < items2.size)) (List.range (min items.size items2.size)))) s) : wpAny (model prog w) A (call (.builtin "tuple.__lt__") [.ref l, .ref b]) Q E s := by
  obtain ⟨⟨cls, dd, data, sl⟩, ho, hc, n, hd⟩ := id hl
  obtain ⟨⟨cls2, dd2, data2, sl2⟩, ho2, hc2, n2, hd2⟩ := id hb
  simp only at hc hd hc2 hd2
  subst hc hd hc2 hd2
  exact call_meets F.slot_tuple_lt ⟨_, ho, rfl⟩ F.entry_tuple_lt (F.args_tuple_lt_2 _ _) (tuple_ltAt l b items items2 n n2 dd dd2 sl sl2 e r) ⟨ho, ho2, he, hr, h⟩
theorem oneLt_tup {xs ys : List PyData} {a b : Value} {as bs : List Addr} {Q : Bool → Shared → Prop} (ra : Reads s.heap a (.tuple xs) as) (rb : Reads s.heap b (.tuple ys) bs) (h : PySem.W.alike (.tuple xs) (.tuple ys) = true)
    (hu : A.units + min (PyData.tuple xs).depth (PyData.tuple ys).depth < cLine) (hq : Q (PySem.W.dataLt (.tuple xs) (.tuple ys)) s) : wpAny (model prog w) A (oneLt' true a b) Q E s := by
  have hal : PySem.W.alikeAll xs ys = true := by simpa [PySem.W.alike] using h
  cases ra with
  | @tuple l o vs n _ as₁ h1 h2 h3 h4 =>
    cases rb with
    | @tuple l' o' vs' n' _ bs₁ k1 k2 k3 k4 =>
      have n1 : vs.size = xs.length := by simpa using ReadsAll.length _ _ _ h4
      have n2 : vs'.size = ys.length := by simpa using ReadsAll.length _ _ _ k4
      rw [PySem.W.dataLt_tuple, ← PySem.W.firstLt_toks xs ys hal, ← n1, ← n2] at hq
      rw [oneLt'_eq]
      simp only [if_true]
      refine wpAny_bind (wpAny_cRoomFor (room_here hu) ?_)
      refine wpAny_bind (wpAny_callSpecialIfBound?_slot (T := "tuple") ⟨_, h1, h2⟩ F.slot_tuple_lt (call_tuple_lt (e := pairEq xs ys) (r := fun j => PySem.W.dataLt (xs.getD j .none) (ys.getD j .none)) ⟨_, h1, h2, _, h3⟩ ⟨_, k1, k2, _, k3⟩ (fun j j1 j2 => ?_) (fun j j1 j2 hj => ?_) ?_))
      · have := PySem.W.eqAt_alikeAll xs ys A.in1 s vs.toList vs'.toList _ _ h4 k4 hal (room_in hu) j (by simpa using j1) (by simpa using j2)
        simpa using this
      · have := PySem.W.rcLt_alikeAll xs ys A.in1 s vs.toList vs'.toList _ _ h4 k4 hal (room_in hu) j (by simpa using j1) (by simpa using j2) hj
        simpa using this
      · exact wpAny_truthy_bool hq
end

def isTn : PyData → Bool
  | .tuple [] => true
  | _ => false
section
variable {M : Model} {A : Around} {E : Value → Shared → Prop} {s : Shared}
theorem firsts_ok : ∀ (vs : List Value) (ds : List PyData) {Q : List (Option Value) → Shared → Prop}, PySem.W.EachIs (fun v d => ∃ as, Reads s.heap v d as) vs ds → (∀ d ∈ ds, ∃ xs, d = .tuple xs) →
    (∀ fs, PySem.W.EachIs (fun f d => f.isSome = !isTn d) fs ds → Q fs s) → wpAny M A (vs.mapM firstOfTuple') Q E s
  | _, _, Q, .nil, _, h => by rw [List.mapM_nil]; exact wpAny_pure (h [] .nil)
  | _, _, Q, .cons (a := v) (b := d) (as := vs) (bs := ds) ⟨as, r⟩ t, ht, h => by
    obtain ⟨xs, rfl⟩ := ht d (List.mem_cons_self ..)
    rw [List.mapM_cons]
    cases r with
    | @tuple l o us n _ _ ho hc hd hr =>
      refine wpAny_bind ?_
      rw [PySem.W.kas_first_eq]
      refine wpAny_bind (PySem.W.Looks.here (show PySem.W.Looks M s.heap (typeOf (.ref l)) o.cls from (PySem.W.Looks.ld ho).andThen .now) ?_)
      rw [hc, if_neg (by first | decide | simp)]
      refine wpAny_bind (listItems_at ho hd (wpAny_pure ?_))
      refine wpAny_bind (firsts_ok vs ds (Q := fun bs s' => wpAny M A (pure (us[0]? :: bs)) Q E s') t (fun d hd => ht d (List.mem_cons_of_mem _ hd)) fun fs hf => wpAny_pure (h _ (.cons ?_ hf)))
      cases q : us.toList with
      | nil =>
        rw [q] at hr
        cases hr
        rw [← Array.getElem?_toList, q]
        rfl
      | cons f fr =>
        rw [q] at hr
        cases hr with
        | cons a b =>
          rw [← Array.getElem?_toList, q]
          rfl
end
theorem each_right {α β : Type} {R : α → β → Prop} : ∀ {as : List α} {bs : List β}, PySem.W.EachIs R as bs → ∀ b ∈ bs, ∃ a ∈ as, R a b
  | _, _, .nil, b, h => by cases h
  | _, _, .cons (a := a) h t, b, hb => by
    rcases List.mem_cons.mp hb with e | hb
    · subst e
      exact ⟨a, List.mem_cons_self .., h⟩
    · obtain ⟨a', x, y⟩ := each_right t b hb
      exact ⟨a', List.mem_cons_of_mem _ x, y⟩

theorem sorts_tups {prog : Program} {w : World} {A : Around} {s : Shared} {vs : List Value} {ds : List PyData} (e : PySem.W.EachIs (fun v d => ∃ as, Reads s.heap v d as) vs ds) (hal : PySem.W.AllAlike ds) (ht : ∀ d ∈ ds, ∃ xs, d = .tuple xs) (hu : ∀ d, d ∈ ds → A.units + d.depth < cLine) : PySem.W.SortsAt prog w A s (PySem.W.dataKind s.heap ds) vs := by
  by_cases hne : ∀ d ∈ ds, ∃ x r, d = .tuple (x :: r)
  · exact PySem.W.SortsAt.data e hal (.inl hne) hu
  have room : ∀ {d d' : PyData}, d ∈ ds → A.units + min d.depth d'.depth < cLine := fun {d d'} hd => Nat.lt_of_le_of_lt (Nat.add_le_add_left (Nat.min_le_left _ _) _) (hu d hd)
  have hz : ∃ d ∈ ds, isTn d = true := by
    apply Classical.byContradiction
    intro h
    apply hne
    intro d hd
    obtain ⟨xs, rfl⟩ := ht d hd
    cases xs with
    | nil => exact absurd ⟨_, hd, rfl⟩ h
    | cons x r => exact ⟨x, r, rfl⟩
  refine ⟨fun v hv => ?_, if ds.head?.any isTn = true then oneType' else general', ?_, fun h2 E Q hq => ?_⟩
  · obtain ⟨d, hd, as, r⟩ := e.left v hv
    exact ⟨_, PySem.W.dataKind_some hal hd r⟩
  · intro E x y a b Q ha hb hq
    obtain ⟨d, as, hd, ra, rfl⟩ := PySem.W.dataKind_inv ha
    obtain ⟨d', as', hd', rb, rfl⟩ := PySem.W.dataKind_inv hb
    obtain ⟨xs, rfl⟩ := ht d hd
    obtain ⟨ys, rfl⟩ := ht d' hd'
    by_cases hh : ds.head?.any isTn = true
    · rw [if_pos hh, keyLt'_oneType]
      exact oneLt_tup ra rb (hal _ hd _ hd') (room hd) hq
    · rw [if_neg hh, lt_gen]
      exact PySem.W.oneLt_alike (f := false) (fun h => by cases h) ra rb (hal _ hd _ hd') (fun h => by cases h) (room hd) hq
  · rw [keyKind'_eq, List.mapM_toArray, map_eq_pure_bind]
    refine wpAny_bind (wpAny_bind (firsts_ok vs ds e ht fun fs hf => wpAny_pure ?_))
    have hall : ¬ (fs.toArray.all fun x => x.isSome) = true := by
      intro hc
      obtain ⟨d, hd, hi⟩ := hz
      obtain ⟨f, hfm, hfe⟩ := each_right hf d hd
      rw [hi] at hfe
      have := (Array.all_eq_true_iff_forall_mem.mp hc) f (by simpa using hfm)
      rw [hfe] at this
      cases this
    rw [if_neg hall]
    cases hf with
    | nil =>
      cases e
      exact absurd h2 (by simp)
    | @cons f d fs' ds' hfd hfr =>
      have e0 : ((f :: fs').toArray[0]?.bind id) = f := by simp
      rw [e0, hfd]
      by_cases hh : isTn d = true
      · have hh' : (d :: ds').head?.any isTn = true := by simpa using hh
        rw [if_pos hh'] at hq
        rw [hh, if_neg (by simp)]
        rw [oneTypeOnly'_eq, List.mapM_toArray, map_eq_pure_bind]
        refine wpAny_bind (wpAny_bind (wpAny_bind (PySem.W.kas_mapM (r := Value.type "tuple") _ (fun v hv Q' hq' => ?_) (wpAny_pure ?_))))
        · obtain ⟨d', hd', as, r⟩ := e.left v hv
          obtain ⟨xs, rfl⟩ := ht d' hd'
          exact (PySem.W.looks_reads r).here hq'
        · have hall2 : ((List.map (fun _ => Value.type "tuple") vs).toArray.all fun x => x == Value.type "tuple") = true := by
            simp only [List.all_toArray, List.all_map, List.all_eq_true]
            intro _ _
            exact (beq_self_eq_true _)
          have h0 : (List.map (fun _ => Value.type "tuple") vs).toArray[0]? = some (Value.type "tuple") := by
            cases vs with
            | nil => exact absurd h2 (by simp)
            | cons v vs => simp
          rw [h0]
          simp only [hall2, if_true]
          exact wpAny_pure (wpAny_pure hq)
      · have hh' : ¬ (d :: ds').head?.any isTn = true := by simpa using hh
        rw [if_neg hh'] at hq
        rw [if_pos (by simpa using hh)]
        exact wpAny_pure hq
end Sy

namespace Sy
open PySem PySem.Spec PyProof.Rows L2

section
variable {prog : Program} {w : World} {A : Around} {E : Value → Shared → Prop} {s : Shared}
theorem sortedHeap_at {h : Heap} {a : Addr} {vs : List Value} {n : Nat} (out : Array Value) (ho : h.get? a = some (seqObj "list" vs.toArray n)) : ∃ n, (sortedHeap h a vs out).get? a = some (seqObj "list" out n) := by
  have ha : a < h.objs.size := Heap.lt_size ho
  obtain ⟨e1, ho1⟩ : ∃ e1, (h.update a (Obj.mapSeq fun _ => #[])).get? a = some (seqObj "list" #[] e1) := ⟨_, get?_update_seq ho (fun _ => #[])⟩
  have ho6 : (((h.update a (Obj.mapSeq fun _ => #[])).push (seqObj "tuple" vs.toArray 0)).push (seqObj "list" #[] 0)).get? a = some (seqObj "list" #[] e1) :=
    Heap.get?_push_of_some _ (Heap.get?_push_of_some _ ho1)
  exact ⟨_, get?_update_seq ho6 (fun _ => out)⟩
theorem sortedHeap_old {h : Heap} {a b : Addr} {vs : List Value} {out : Array Value} {o : Obj} (hb : b ≠ a) (e : h.get? b = some o) : (sortedHeap h a vs out).get? b = some o := by
  unfold sortedHeap
  rw [Heap.get?_update_ne _ _ _ _ hb]
  exact Heap.get?_push_of_some _ (Heap.get?_push_of_some _ ((Heap.get?_update_ne _ _ _ _ hb).trans e))
/-- what a list or a tuple gives to a builtin, and the heap behind it -/
theorem collect_any {it : Addr} {T : String} {o : Obj} {vs : List Value} {n : Nat} {Q : List Value → Shared → Prop} (hT : T = "list" ∨ T = "tuple") (ho : s.heap.get? it = some o) (hc : o.cls = .type T) (hd : o.data = .seq vs.toArray n) (hsz : vs.length ≤ sizeLine)
    (h : Q vs { s with heap := (s.heap.push (seqObj "list" #[] 0)).update s.heap.objs.size (Obj.mapSeq (· ++ vs.toArray)) }) : wpAny (model prog w) A (collect (.ref it)) Q E s := by
  have h0 : (s.heap.push (seqObj "list" #[] 0)).get? s.heap.objs.size = some (seqObj "list" #[] 0) := Heap.get?_push_size _ rfl
  have sz : vs.toArray.size ≤ sizeLine := by rw [List.size_toArray]; exact hsz
  unfold collect
  refine wpAny_bind (wpAny_runValue (codeAny_builtin entry_proto_collect' ?_))
  show wpAny _ A.in1 (newList [] >>= fun l => again (.builtin "list.__iadd__" ⟨[l, .ref it], []⟩)) _ _ s
  refine wpAny_bind (wpAny_newList (wpAny_pure ⟨Code.quiet_builtin _ (by decide +kernel), codeAny_builtin entry_list_iadd' ?_⟩))
  refine wpAny_mono (wpAny_extend_seq (A := A) (s := { s with heap := s.heap.push (seqObj "list" #[] 0) }) (R := fun r s' => r = .ok (.ret (.ref s.heap.objs.size)) ∧ s' = { s with heap := (s.heap.push (seqObj "list" #[] 0)).update s.heap.objs.size (Obj.mapSeq (· ++ vs.toArray)) })
    s.heap.objs.size it (.ref s.heap.objs.size) 0 hT h0 (Heap.get?_push_of_some _ ho) hc hd ⟨rfl, rfl⟩ sz) (fun f s' q => ?_) (fun e s' q => absurd q.1 (by simp))
  have back : wpAny (model prog w) A (do
      let o ← load s.heap.objs.size
      match o.data with
      | .seq xs _ => pure xs.toList
      | _ => unsupported "internal:collect") Q E { s with heap := (s.heap.push (seqObj "list" #[] 0)).update s.heap.objs.size (Obj.mapSeq (· ++ vs.toArray)) } := by
    refine wpAny_bind (wpAny_load (get?_update_seq h0 _) ?_)
    show wpAny _ _ (pure ((#[] : Array Value) ++ vs.toArray).toList) Q E _
    rw [show ((#[] : Array Value) ++ vs.toArray).toList = vs by simp]
    exact wpAny_pure h
  cases f with
  | done f =>
    obtain ⟨e, rfl⟩ := q
    cases e
    exact back
  | again c => exact ⟨q.1, codeAny_mono q.2 fun r s2 z => by obtain ⟨rfl, rfl⟩ := z; exact back⟩
theorem sorts_one {prog : Program} {w : World} {A : Around} {s : Shared} {vs : List Value} {ds : List PyData} (e : PySem.W.EachIs (fun v d => ∃ as, Reads s.heap v d as) vs ds) (hal : PySem.W.AllAlike ds) (h1 : ds.length ≤ 1) (hn : ∀ d ∈ ds, d ≠ .none) (hu : ∀ d, d ∈ ds → A.units + d.depth < cLine) : PySem.W.SortsAt prog w A s (PySem.W.dataKind s.heap ds) vs := by
  refine ⟨fun v hv => ?_, PyProof.Rows.general', ?_, fun h2 => absurd h2 (by rw [e.length]; omega)⟩
  · obtain ⟨d, hd, as, r⟩ := e.left v hv
    exact ⟨_, PySem.W.dataKind_some hal hd r⟩
  · intro E x y a b Q ha hb hq
    obtain ⟨d, as, hd, ra, rfl⟩ := PySem.W.dataKind_inv ha
    obtain ⟨d', as', hd', rb, rfl⟩ := PySem.W.dataKind_inv hb
    rw [lt_gen]
    exact PySem.W.oneLt_alike (f := false) (fun h => by cases h) ra rb (hal d hd d' hd') (hn d hd) (Nat.lt_of_le_of_lt (Nat.add_le_add_left (Nat.min_le_left _ _) _) (hu d hd)) hq
theorem sorts_any {prog : Program} {w : World} {A : Around} {s : Shared} {vs : List Value} {ds : List PyData} (e : PySem.W.EachIs (fun v d => ∃ as, Reads s.heap v d as) vs ds) (hal : PySem.W.AllAlike ds) (h : SrtOk ds) (hu : ∀ d, d ∈ ds → A.units + d.depth < cLine) : PySem.W.SortsAt prog w A s (PySem.W.dataKind s.heap ds) vs := by
  rcases h with h | ⟨h1, h2⟩ | h
  · exact PySem.W.SortsAt.data e hal h hu
  · exact sorts_one e hal h1 h2 hu
  · exact sorts_tups e hal h hu
/-- sorted(l), by what l gives to a builtin -/
theorem sorted_of {l : Addr} (Pv : List Value → Prop) {β : Type} {R : Value → β → Prop} {bs : List β} {enc : β → PyData} {Q : Value → Shared → Prop}
    (hcol : ∀ (E' : Value → Shared → Prop) (Q' : List Value → Shared → Prop), (∀ (vs : List Value) (h1 : Heap) (tk : Nat), Pv vs → (∀ b u, s.heap.get? b = some u → h1.get? b = some u) → Q' vs { s with heap := h1, toks := tk }) → wpAny (model prog w) A.in1 (collect (.ref l)) Q' E' s)
    (hz : bs.length ≤ sizeLine) (e : ∀ vs, Pv vs → PySem.W.EachIs R vs bs) (er : ∀ vs, Pv vs → PySem.W.EachIs (fun v b => ∃ as, Reads s.heap v (enc b) as) vs bs) (hal : PySem.W.AllAlike (bs.map enc)) (hk : SrtOk (bs.map enc)) (hu : ∀ b, b ∈ bs → A.units + 2 + (enc b).depth < cLine)
    (h : ∀ (h1 h' : Heap) (tk : Nat) (d : Addr) (out : List Value), PySem.W.EachIs R out (bs.mergeSort (PySem.W.dataLe false enc)) → (∀ b o, s.heap.get? b = some o → h1.get? b = some o) → (∀ b o, h1.get? b = some o → h'.get? b = some o) → h1.objs.size ≤ d → (∃ n, h'.get? d = some (seqObj "list" out.toArray n)) → Q (.ref d) { s with heap := h', toks := tk }) :
    wpAny (model prog w) A (call (.builtin "sorted") [.ref l]) Q E s := by
  refine Calls.call_function_entry kind_sorted plain_sorted entry_sorted (args_sorted1 _) ?_
  unfold Builtin.«sorted»
  refine wpAny_bind (m := checkCount "sorted" 1 1 _) (wpAny_pure ?_)
  refine wpAny_bind (hcol _ _ fun vs h1 tk hpv keep => ?_)
  have e := e vs hpv
  have er := er vs hpv
  have hz : vs.length ≤ sizeLine := by rw [e.length]; exact hz
  refine wpAny_bind (wpAny_newList ?_ hz)
  have hoL : (h1.push (seqObj "list" vs.toArray 0)).get? h1.objs.size = some (seqObj "list" vs.toArray 0) := Heap.get?_push_size _ rfl
  show wpAny _ _ _ _ _ { s with heap := h1.push (seqObj "list" vs.toArray 0), toks := tk }
  have old : ∀ b u, s.heap.get? b = some u → b ≠ h1.objs.size ∧ (h1.push (seqObj "list" vs.toArray 0)).get? b = some u := fun b u q => ⟨Nat.ne_of_lt (Heap.lt_size (keep _ _ q)), Heap.get?_push_of_some _ (keep _ _ q)⟩
  have er' : PySem.W.EachIs (fun v b => ∃ as, Reads (PySem.W.sortingHeap (h1.push (seqObj "list" vs.toArray 0)) h1.objs.size vs) v (enc b) as) vs bs := er.mono fun _ _ ⟨as, r⟩ => ⟨as, PyProof.Rows.Reads.keeps (fun b u q => PySem.W.sortingHeap_old (old b u q).1 (old b u q).2) r⟩
  refine wpAny_bind (wpAny_holding (wpAny_call_entry slot_list_sort ⟨_, hoL, rfl⟩ entry_list_sort (PySem.W.list_sort_vals (s := { s with heap := h1.push (seqObj "list" vs.toArray 0), toks := tk }) (κ := PySem.W.dataKind (PySem.W.sortingHeap (h1.push (seqObj "list" vs.toArray 0)) h1.objs.size vs) (bs.map enc)) hoL
    (sorts_any (s := { s with heap := PySem.W.sortingHeap (h1.push (seqObj "list" vs.toArray 0)) h1.objs.size vs, toks := tk }) (PySem.W.each_map (R := fun v d => ∃ as, Reads (PySem.W.sortingHeap (h1.push (seqObj "list" vs.toArray 0)) h1.objs.size vs) v d as) enc er') hal hk (PySem.W.bound_map hu)) hz ⟨_, rfl, ?_⟩) (args_list_sort _)))
  refine wpAny_pure ⟨_, rfl, ?_⟩
  exact h h1 _ tk h1.objs.size _ (PySem.W.sortVals_data false e er' hal) keep (fun b u q => sortedHeap_old (Nat.ne_of_lt (Heap.lt_size q)) (Heap.get?_push_of_some _ q)) (Nat.le_refl _) (sortedHeap_at _ hoL)
theorem collect_seq {l : Addr} {vs : List Value} {T : String} {o : Obj} {n : Nat} (hT : T = "list" ∨ T = "tuple") (ho : s.heap.get? l = some o) (hc : o.cls = .type T) (hd : o.data = .seq vs.toArray n) (hz : vs.length ≤ sizeLine)
    (E' : Value → Shared → Prop) (Q' : List Value → Shared → Prop) (h : ∀ (vs' : List Value) (h1 : Heap) (tk : Nat), vs' = vs → (∀ b u, s.heap.get? b = some u → h1.get? b = some u) → Q' vs' { s with heap := h1, toks := tk }) : wpAny (model prog w) A (collect (.ref l)) Q' E' s := by
  refine collect_any hT ho hc hd hz (h _ _ s.toks rfl fun b u q => ?_)
  rw [Heap.get?_update_ne _ _ _ _ (Nat.ne_of_lt (Heap.lt_size q))]
  exact Heap.get?_push_of_some _ q
end

section
variable {K : PySem.W.Frag} {F : Hp}
theorem each_rep : ∀ {l : List SV} {vs : List V} {us : List Value}, RepL K F l vs → Vals vs us → PySem.W.EachIs (fun u x => ∃ v, RelV v u ∧ RepV K F x v) us l
  | [], vs, us, r, h => by
    rw [show vs = [] from r] at h
    cases h
    exact .nil
  | x :: l, vs, us, ⟨v, w, h1, h2, h3⟩, h => by
    subst h1
    cases h with
    | cons a b => exact .cons ⟨v, a, h2⟩ (each_rep h3 b)
theorem rep_each : ∀ {l : List SV} {us : List Value}, PySem.W.EachIs (fun u x => ∃ v, RelV v u ∧ RepV K F x v) us l → ∃ vs, RepL K F l vs ∧ Vals vs us
  | [], us, h => by
    cases h
    exact ⟨[], rfl, .nil⟩
  | x :: l, us, h => by
    cases h with
    | cons a b =>
      obtain ⟨v, a1, a2⟩ := a
      obtain ⟨vs, b1, b2⟩ := rep_each b
      exact ⟨v :: vs, ⟨v, vs, rfl, a2, b1⟩, .cons a1 b2⟩
theorem toDs_map : ∀ {l : List SV} {ds : List PyData}, toDs l = some ds → l.map datE = ds
  | [], ds, h => by
    have e : some [] = some ds := by simpa [toDs] using h
    cases e
    rfl
  | x :: l, ds, h => by
    have h' : ((toD x).bind fun d => (toDs l).map fun r => d :: r) = some ds := by simpa [toDs] using h
    obtain ⟨d, e1, e2⟩ := Option.bind_eq_some_iff.mp h'
    obtain ⟨r, e3, e4⟩ := Option.map_eq_some_iff.mp e2
    rw [← e4, List.map_cons, toDs_map e3]
    show (toD x).getD .none :: r = d :: r
    rw [e1]
    rfl
theorem toDs_each {l : List SV} {ds : List PyData} (h : toDs l = some ds) : ∀ x ∈ l, toD x = some (datE x) := by
  induction l generalizing ds with
  | nil => intro x hx; cases hx
  | cons y l ih =>
    have h' : ((toD y).bind fun d => (toDs l).map fun r => d :: r) = some ds := by simpa [toDs] using h
    obtain ⟨d, e1, e2⟩ := Option.bind_eq_some_iff.mp h'
    obtain ⟨r, e3, e4⟩ := Option.map_eq_some_iff.mp e2
    intro x hx
    rcases List.mem_cons.mp hx with e | hx
    · rw [e]
      unfold datE
      rw [e1]
      rfl
    · exact ih e3 x hx
end
end Sy

/-! what is walked of a list, a tuple or a dict: sorted, list -/
namespace Sy
open PySem PySem.Spec PyProof.Rows L2
section
variable {K : PySem.W.Frag} {F M H : Hp} {S : Sto}
open Classical in
/-- F, and all tuples that are tracked -/
noncomputable def tupF (F H : Hp) : Hp := fun a => if ∃ vs, H a = some (.tup vs) then H a else F a
theorem tupF_at {a : Addr} {vs : List V} (h : H a = some (.tup vs)) : tupF F H a = some (.tup vs) := by
  unfold tupF
  rw [if_pos ⟨vs, h⟩, h]
theorem tupF_same (f : ∀ a o, F a = some o → H a = some o) : Same F (tupF F H) := fun a o e => by
  unfold tupF
  split
  · exact f a o e
  · exact e
theorem tupF_of {a : Addr} {o : HO} (h : tupF F H a = some o) : F a = some o ∨ (H a = some o ∧ ∃ vs, o = .tup vs) := by
  unfold tupF at h
  split at h
  · rename_i z
    obtain ⟨vs, hv⟩ := z
    rw [hv] at h
    cases h
    exact .inr ⟨hv, vs, rfl⟩
  · exact .inl h
theorem Sim.tupF (q : Sim K F M S H) : Sim K (Sy.tupF F H) M S H := by
  refine ⟨fun a o e => ?_, fun a o e => ?_, fun a o e => ?_, fun c P l => (q.t c P l).go (fun a o e h1 h2 => ⟨h1, h2, e⟩) fun h1 _ _ ⟨ps, h2⟩ => ?_⟩
  rotate_left 3
  · cases z : Sy.tupF F H P with
    | none => rfl
    | some u =>
      rcases tupF_of z with w | ⟨w, vs, e2⟩
      · rw [h1] at w; cases w
      · rw [h2, e2] at w
        cases w
  · rcases tupF_of e with z | ⟨z, _⟩
    · exact q.f a o z
    · exact z
  · obtain ⟨h1, h2, h3, h4⟩ := q.m a o e
    refine ⟨h1, ?_, h3, h4⟩
    cases z : Sy.tupF F H a with
    | none => rfl
    | some u =>
      rcases tupF_of z with w | ⟨w, vs, e2⟩
      · rw [h2] at w; cases w
      · rw [h1] at w
        cases w
        exact absurd e2 (h4 vs)
  · obtain ⟨h1, u, h2, h3⟩ := q.s a o e
    refine ⟨?_, u, h2, RepO.mono (tupF_same q.f) h3⟩
    cases z : Sy.tupF F H a with
    | none => rfl
    | some w =>
      rcases tupF_of z with y | ⟨y, vs, e2⟩
      · rw [h1] at y; cases y
      · rw [h2] at y
        cases y
        rw [e2] at h3
        cases o <;> simp [RepO, ExC] at h3
theorem key_rep (ks : List Key) : RepL K F (ks.map keySV) (ks.map kV) := by
  induction ks with
  | nil => rfl
  | cons k ks ih =>
    refine ⟨kV k, ks.map kV, rfl, ?_, ih⟩
    cases k <;> rfl
theorem zip_keys {α : Type} : ∀ {ks : List α} {vs : List V}, ks.length = vs.length → (ks.zip vs).map (·.1) = ks
  | [], _, _ => rfl
  | _ :: _, [], h => by cases h
  | k :: ks, v :: vs, h => by
    show k :: (ks.zip vs).map (·.1) = k :: ks
    rw [zip_keys (by simpa using h)]
theorem isKeys_rep : ∀ {ks : List (List Key)} {vs : List V} {bs : List Addr}, ks.length = vs.length → IsKeys H (ks.zip vs) bs → RepL K (tupF F H) (ks.map fun r => SV.tup (r.map keySV)) (bs.map V.ref)
  | [], _, _, _, h => by
    cases h
    rfl
  | k :: ks, [], _, hl, _ => by cases hl
  | k :: ks, v :: vs, _, hl, h => by
    cases h with
    | cons h1 t => 
      rename_i b bs
      exact ⟨.ref b, bs.map V.ref, rfl, ⟨b, k.map kV, rfl, tupF_at h1, key_rep k⟩, isKeys_rep (by simpa using hl) t⟩
/-- what is walked -/
theorem src_rep (q : Sim K F M S H) {x : SV} {v : V} {l : List SV} (rx : RepV K F x v) (h : srcOf S x = some l) :
    ∃ a, v = .ref a ∧ ((∃ vs, (SqL K H a vs ∨ SqT K H a vs) ∧ RepL K F l vs) ∨ (∃ (ks : List Key) (vs : List V), Rd H a (.dK (ks.zip vs)) ∧ ks.length = vs.length ∧ l = ks.map keySV) ∨ (∃ (ks : List (List Key)) (vs : List V), Rd H a (.dT (ks.zip vs)) ∧ ks.length = vs.length ∧ l = ks.map fun r => SV.tup (r.map keySV))) := by
  unfold srcOf at h
  cases hd : dicS S x with
  | none =>
    rw [hd] at h
    obtain ⟨a, vs, e, h1, r1⟩ := seq_lt q rx h
    exact ⟨a, e, .inl ⟨vs, h1, r1⟩⟩
  | some d =>
    rw [hd] at h
    cases x with
    | dK ks vs =>
      cases hd
      cases h
      obtain ⟨a, us, e, h1, h2, h3⟩ := rx
      exact ⟨a, e, .inr (.inl ⟨ks, us, .inl (q.f _ _ h1), h2, rfl⟩)⟩
    | dT ks vs =>
      cases hd
      cases h
      obtain ⟨a, us, e, h1, h2, h3⟩ := rx
      exact ⟨a, e, .inr (.inr ⟨ks, us, .inl (q.f _ _ h1), h2, rfl⟩)⟩
    | own a =>
      unfold dicS at hd
      cases hs : S a with
      | none => simp [hs] at hd
      | some o =>
        obtain ⟨_, u, hu, r⟩ := q.s a o hs
        cases o with
        | dK ks vs =>
          simp [hs] at hd
          subst hd
          cases h
          obtain ⟨us, e1, e2, e3⟩ := r
          subst e1
          exact ⟨a, rx, .inr (.inl ⟨ks, us, .inl hu, e2, rfl⟩)⟩
        | dT ks vs =>
          simp [hs] at hd
          subst hd
          cases h
          obtain ⟨us, e1, e2, e3⟩ := r
          subst e1
          exact ⟨a, rx, .inr (.inr ⟨ks, us, .inl hu, e2, rfl⟩)⟩
        | lk od us ks vs =>
          simp [hs] at hd
          subst hd
          cases h
          obtain ⟨e1, e2, e3⟩ := r
          subst e1
          exact ⟨a, rx, .inr (.inl ⟨ks, us, .inr ⟨od, hu⟩, e2, rfl⟩)⟩
        | lst l' => simp [hs] at hd
        | ins C fs => simp [hs] at hd
        | exc a' c w => simp [hs] at hd
        | fz o' l' => simp [hs] at hd
    | _ => cases hd
end
section
variable {X : Cx}
/-- the keys of a dict, gathered -/
theorem collect_dK {pins : List (Addr × Obj)} {σ : L2.St} {H : Hp} {s : Shared} (I : Inv X pins σ H s) (hc : X.calm = true) {a : Addr} {kvs : List (Key × V)} (hd : Rd H a (.dK kvs))
    (E' : Value → Shared → Prop) (Q' : List Value → Shared → Prop) (h : ∀ (its : List Value) (h1 : Heap) (tk : Nat), Vals (kvs.map fun p => kV p.1) its → (∀ b u, s.heap.get? b = some u → h1.get? b = some u) → Q' its { s with heap := h1, toks := tk }) : wpAny (model X.prog X.w) X.A.in1 (collect (.ref a)) Q' E' s := by
  obtain ⟨z, lo, vs, rel, dd⟩ := dk_rd I.hok hd
  obtain ⟨ep, hat⟩ := dd.dictAt
  have ek : (kvs.map fun kv => kV kv.1) = vs.map fun p => kV p.1 := by
    have e := congrArg (List.map kV) rel.keys
    rw [List.map_map, List.map_map] at e
    exact e
  refine PySem.W.kdu_collect (A := X.A.in1) (PySem.W.kdl_dict (knd := mixKind X.prog X.w) (kvs := vs) (ep := ep) lo) (I.ok.hd hc) hat (by rw [← rel.length]; exact z) fun h' tk acc hk hacc => ?_
  refine h _ _ _ ?_ hk
  rw [ek]
  exact keys_at (by rw [Array.length_toList]; exact hacc.1) fun j v e => hacc.2 j v (by rw [← Array.getElem?_toList]; exact e)
theorem collect_dT {pins : List (Addr × Obj)} {σ : L2.St} {H : Hp} {s : Shared} (I : Inv X pins σ H s) (hc : X.calm = true) {a : Addr} {kvs : List (List Key × V)} (hd : Rd H a (.dT kvs)) :
    ∃ bs : List Addr, IsKeys H kvs bs ∧ ∀ (E' : Value → Shared → Prop) (Q' : List Value → Shared → Prop) (_ : ∀ (its : List Value) (h1 : Heap) (tk : Nat), its = bs.map Value.ref → (∀ b u, s.heap.get? b = some u → h1.get? b = some u) → Q' its { s with heap := h1, toks := tk }), wpAny (model X.prog X.w) X.A.in1 (collect (.ref a)) Q' E' s := by
  obtain ⟨z, hs, ks, pr, o, es, ep, ho, hx, hdt, he, hn⟩ := (show ObjOk X.prog X.w H s.heap a (.dT kvs) from hd.ok I.hok)
  have l1 : es.size = ks.length := size_of_entries he
  have l2 : kvs.length = ks.length := Paired.length pr
  refine ⟨ks.map fun x => x.2.1, isKeys_of pr, fun E' Q' h => ?_⟩
  refine PySem.W.kdu_collect (A := X.A.in1) (kdl_raw hs hx hdt) (I.ok.hd hc) ho (by omega) fun h' tk acc hk hacc => h _ _ _ ?_ hk
  have hl : acc.toList.length = ks.length := by rw [Array.length_toList, hacc.1]; exact l1
  refine List.ext_getElem? fun j => ?_
  rw [List.map_map, List.getElem?_map]
  cases hj : acc.toList[j]? with
  | none =>
    have h1 := List.getElem?_eq_none_iff.mp hj
    rw [List.getElem?_eq_none (by omega)]
    rfl
  | some v =>
    obtain ⟨en, hen, hv⟩ := hacc.2 j v (by rw [← Array.getElem?_toList]; exact hj)
    have qe := entry_at he j
    rw [hen] at qe
    cases hb : ks[j]? with
    | none =>
      rw [hb] at qe
      exact nomatch (show some en = none from qe)
    | some b =>
      rw [hb] at qe
      have e2 : en = entryOfKey (tupleKind (mixKind X.prog X.w)) b := Option.some.inj qe
      rw [hv, e2]
      rfl
theorem vals_of_refs : ∀ {bs : List Addr} {its : List Value}, its = bs.map Value.ref → Vals (bs.map V.ref) its := fun {bs its} e => by
  rw [e]
  exact vals_refs bs
theorem cr_sortedA (hc : X.calm = true) (hu : X.A.units + 64 < cLine) {own : Bool} : CallR X (.builtin "sorted") (LRs X.K (r1 (sortedS own))) := by
  intro pins s σ H ws us Q I rv z
  obtain ⟨F, M, S, xs, kq, rr, q, o, kk⟩ := z
  unfold Sy.r1 at o
  split at o
  · rename_i x
    obtain ⟨v, rfl, r0⟩ := RepL.one rr
    obtain ⟨l, ds, o1, o2, o3, o4, o5, o6⟩ := o
    obtain ⟨a, rfl, h1⟩ := src_rep q r0 o1
    obtain ⟨u, rfl, ru⟩ := vals1 rv
    obtain rfl : u = Value.ref a := ru
    have el : l.map datE = ds := toDs_map o2
    -- the end, alike for all
    have fin : ∀ (F' : Hp) (vs : List V) (Pv : List Value → Prop), Same F F' → Sim X.K F' M S H → RepL X.K F' l vs → vs.length ≤ sizeLine → (∀ its, Pv its → Vals vs its) →
        (∀ (E' : Value → Shared → Prop) (Q' : List Value → Shared → Prop), (∀ (its : List Value) (h1 : Heap) (tk : Nat), Pv its → (∀ b u, s.heap.get? b = some u → h1.get? b = some u) → Q' its { s with heap := h1, toks := tk }) → wpAny (model X.prog X.w) X.A.in1 (collect (.ref a)) Q' E' s) →
        wpAny (model X.prog X.w) X.A (call (.builtin "sorted") [Value.ref a]) (EP X pins σ Q) X.xe s := fun F' vs Pv s1 q' r1 hz hpv hcol => by
      have ea := fun its h => each_rep r1 (hpv its h)
      refine sorted_of Pv hcol (by rw [r1.length]; exact hz) ea (fun its h => (PySem.W.each_mem (ea its h)).mono fun u x ⟨⟨v, p1, p2⟩, hx⟩ => Dp.reads I (datE x) v u (toD_ok q'.f x v (datE x) p2 (toDs_each o2 x hx)) p1) (by rw [el]; exact o3) (by rw [el]; exact o4) (fun b hb => ?_) fun h1 h' tk d out hs k1 kp hd' hn => ?_
      · have := o5 (datE b) (by rw [← el]; exact List.mem_map.mpr ⟨b, hb, rfl⟩)
        omega
      · obtain ⟨n, hn⟩ := hn
        obtain ⟨zs, z1, z2⟩ := rep_each hs
        have hl : zs.length ≤ sizeLine := by
          have e1 := z1.length
          rw [List.length_mergeSort] at e1
          have e2 := r1.length
          omega
        have I1 : Inv X pins σ H { s with heap := h1, toks := tk } := I.kept k1
        exact ⟨.ref d, upd H d (.lst zs), I1.laid (t' := tk) kp hd' ⟨hl, out, n, z2, hn⟩, rfl, newL_ok q' z1 o6 (kk.mono s1) (I1.hok.fresh hd')⟩
    rcases h1 with ⟨vs, h1, r1⟩ | ⟨ks, vs, h1, hl, rfl⟩ | ⟨ks, vs, h1, hl, rfl⟩
    · obtain ⟨T, ob, n, its, hT, ho, hc, hd, hv, hz⟩ : ∃ (T : String) (ob : Obj) (n : Nat) (its : List Value), (T = "list" ∨ T = "tuple") ∧ s.heap.get? a = some ob ∧ ob.cls = .type T ∧ ob.data = .seq its.toArray n ∧ Vals vs its ∧ vs.length ≤ sizeLine := by
        rcases h1 with h1 | h1
        · obtain ⟨its, hv, hp, hz⟩ := I.list h1
          obtain ⟨ob, ho, hc, n, hd⟩ := hp.isList
          exact ⟨"list", ob, n, its, .inl rfl, ho, hc, hd, hv, hz⟩
        · obtain ⟨its, hv, hp, hz⟩ := I.tuple h1
          have pT : s.heap.IsTuple a its.toArray := hp
          obtain ⟨ob, ho, hc, n, hd⟩ := pT
          exact ⟨"tuple", ob, n, its, .inr rfl, ho, hc, hd, hv, hz⟩
      refine fin F vs (fun x => x = its) Same.rfl' q r1 hz (fun x e => by rw [e]; exact hv) fun E' Q' h => collect_seq hT ho hc hd (by rw [← hv.length]; exact hz) E' Q' h
    · obtain ⟨z, _⟩ := dk_rd I.hok h1
      have zl : (ks.zip vs).length = ks.length := by rw [List.length_zip]; omega
      refine fin F (ks.map kV) (fun x => Vals (ks.map kV) x) Same.rfl' q (key_rep ks) (by rw [List.length_map]; omega) (fun x e => e) fun E' Q' h => collect_dK I hc h1 E' Q' fun its h1 tk hv hk => h its h1 tk ?_ hk
      have e : ((ks.zip vs).map fun p => kV p.1) = ks.map kV := by
        rw [← zip_keys hl, List.map_map]
        rw [zip_keys hl]
        rfl
      rw [← e]
      exact hv
    · obtain ⟨bs, hk, hcol⟩ := collect_dT I hc h1
      obtain ⟨z, _⟩ := (show ObjOk X.prog X.w H s.heap a (.dT (ks.zip vs)) from h1.ok I.hok)
      have zl : (ks.zip vs).length = ks.length := by rw [List.length_zip]; omega
      have bl := Paired.length hk
      refine fin (tupF F H) (bs.map V.ref) (fun x => x = bs.map Value.ref) (tupF_same q.f) q.tupF (isKeys_rep hl hk) (by rw [List.length_map]; omega) (fun x e => vals_of_refs e) fun E' Q' h => hcol E' Q' fun its h1 tk e hk => h its h1 tk e hk
  · cases o
/-- list(s), s a text -/
theorem call_listS (hc : X.calm = true) : CallR X (.type "list") (fun xs H Q => ∃ w : PySem.Str, xs = [.str w] ∧ w.length ≤ sizeLine ∧ ∀ p, H p = none → Q (.ref p) (upd H p (.lst (w.cps.toList.map fun c => V.str ⟨#[c]⟩)))) := by
  intro pins s σ H xs us Q I r h
  obtain ⟨w, rfl, hz, q⟩ := h
  obtain ⟨u, rfl, t, rfl⟩ := vals1 r
  refine call_list_str (I.ok.hd hc) w t (fun h' tk acc' c' kp e hacc => ?_) hz
  have hv : Vals (w.cps.toList.map fun c => V.str ⟨#[c]⟩) acc'.toList := by
    have go : ∀ (l : List Nat) (vs : List Value), vs.length = l.length → (∀ (j : Nat) v, vs[j]? = some v → ∃ c u, l[j]? = some c ∧ v = Value.str ⟨#[c]⟩ u) → Vals (l.map fun c => V.str ⟨#[c]⟩) vs := by
      intro l
      induction l with
      | nil =>
        intro vs hl _
        cases vs with
        | nil => exact .nil
        | cons _ _ => cases hl
      | cons c l ih =>
        intro vs hl hj
        cases vs with
        | nil => cases hl
        | cons v vs =>
          obtain ⟨c', u, h1, h2⟩ := hj 0 v rfl
          cases h1
          exact .cons ⟨u, h2⟩ (ih vs (by simpa using hl) fun j v hv => by
            obtain ⟨c2, u2, g1, g2⟩ := hj (j + 1) v (by simpa using hv)
            exact ⟨c2, u2, by simpa using g1, g2⟩)
    refine go _ _ (by simpa using hacc.1) fun j v hv => ?_
    obtain ⟨c, u, h1, h2⟩ := hacc.2 j v (by simpa using hv)
    exact ⟨c, u, by simpa using h1, h2⟩
  exact ⟨.ref s.heap.objs.size, _, I.laid (t' := tk) kp (Nat.le_refl _) (show ObjOk X.prog X.w _ h' _ (.lst _) from ⟨by rw [List.length_map]; exact hz, acc'.toList, c', hv, e⟩), rfl, q _ (I.hok.fresh (Nat.le_refl _))⟩
theorem cr_list (hc : X.calm = true) {own : Bool} : CallR X (.type "list") (LRs X.K (r1 (listS own))) := by
  intro pins s σ H ws us Q I rv z
  obtain ⟨F, M, S, xs, kq, rr, q, o, kk⟩ := z
  unfold Sy.r1 at o
  split at o
  · rename_i x
    obtain ⟨v, rfl, r0⟩ := RepL.one rr
    unfold listS at o
    split at o
    · rename_i w
      obtain ⟨o1, o2⟩ := o
      cases (show v = .str w from r0)
      refine call_listS hc pins s σ H _ us Q I rv ⟨w, rfl, o1, fun p hp => newL_ok q (?_ : RepL X.K F _ _) o2 kk hp⟩
      have go : ∀ l : List Nat, RepL X.K F (l.map fun c => SV.str ⟨#[c]⟩) (l.map fun c => V.str ⟨#[c]⟩) := by
        intro l
        induction l with
        | nil => rfl
        | cons c l ih => exact ⟨_, _, rfl, rfl, ih⟩
      exact go _
    obtain ⟨l, o1, o6⟩ := o
    obtain ⟨a, rfl, h1⟩ := src_rep q r0 o1
    rcases h1 with ⟨vs, h1, r1⟩ | ⟨ks, vs, h1, hl, rfl⟩ | ⟨ks, vs, h1, hl, rfl⟩
    · exact call_list_of pins s σ H _ us Q I rv ⟨a, vs, rfl, h1, fun p hp => newL_ok q r1 o6 kk hp⟩
    · refine call_listD hc pins s σ H _ us Q I rv ⟨a, ks.zip vs, rfl, h1, fun p hp => ?_⟩
      have e : ((ks.zip vs).map fun kv => kV kv.1) = ks.map kV := by
        have e1 := congrArg (List.map kV) (zip_keys hl)
        rw [List.map_map] at e1
        exact e1
      rw [e]
      exact newL_ok q (key_rep ks) o6 kk hp
    · refine call_list_dT hc pins s σ H _ us Q I rv ⟨a, ks.zip vs, rfl, h1, fun p bs hp hk => ?_⟩
      exact newL_ok q.tupF (isKeys_rep hl hk) o6 (kk.mono (tupF_same q.f)) hp
  · cases o
end
end Sy

/-! len(set(texts)): how many unlike ones -/
namespace Sy
open PySem PySem.Spec PyProof.Rows L2
theorem metS_app : ∀ (l acc : List PySem.Str) (x : PySem.Str), metS acc (l ++ [x]) = (if x ∈ metS acc l then metS acc l else metS acc l ++ [x])
  | [], acc, x => rfl
  | y :: l, acc, x => metS_app l _ x
section
variable {prog : Program} {w : World} {A : Around} {R : Result → Shared → Prop} {I : Addr} {fp wr : List Addr} {G : Array GenState → Array GenState → Prop} {n : Nat} {P : Nat → Value → Prop} {St : Nat → Shared → Prop}
/-- the members while the first i texts were put in -/
def InSet (prog : Program) (w : World) (h : Heap) (S : Addr) (xs : List PySem.Str) (i : Nat) : Prop := h.SetOf (PySem.strKind prog w) S (fun k => decide (k ∈ metS [] (xs.take i))) (metS [] (xs.take i)).length
theorem InSet.at {h h' : Heap} {S : Addr} {xs : List PySem.Str} {i : Nat} (x : InSet prog w h S xs i) (k : ∀ o, h.get? S = some o → h'.get? S = some o) : InSet prog w h' S xs i := by
  obtain ⟨o, es, ep, t, ho, rest⟩ := x
  exact ⟨o, es, ep, t, k _ ho, rest⟩
theorem InSet.next {h : Heap} {S : Addr} {xs : List PySem.Str} {i : Nat} {x : PySem.Str} (hx : xs[i]? = some x)
    (q : h.SetOf (PySem.strKind prog w) S (fun j => decide (j ∈ metS [] (xs.take i)) || decide (j = x)) (if decide (x ∈ metS [] (xs.take i)) = true then (metS [] (xs.take i)).length else (metS [] (xs.take i)).length + 1)) : InSet prog w h S xs (i + 1) := by
  have e : xs.take (i + 1) = xs.take i ++ [x] := by rw [List.take_add_one, hx]; rfl
  unfold InSet
  rw [e, metS_app]
  refine SetOf_congr q (fun k => ?_) ?_
  · by_cases hm : x ∈ metS [] (xs.take i)
    · rw [if_pos hm]
      by_cases hk : k = x
      · subst hk; simp [hm]
      · simp [hk]
    · rw [if_neg hm]
      simp
  · by_cases hm : x ∈ metS [] (xs.take i)
    · simp [hm]
    · simp [hm]
end
section
variable {prog : Program} {w : World} {A : Around} {E : Value → Shared → Prop} {s : Shared}
end
section
variable {prog : Program} {w : World} {A : Around} {E : Value → Shared → Prop} {s : Shared}
end
section
variable {X : Cx}
end
end Sy

namespace Sy
open PySem PySem.Spec PyProof.Rows L2
/-! ### what is built in -/
def biV : Bi → Value
  | .len => .builtin "len"
  | .sorted => .builtin "sorted"
  | .tuple => .type "tuple"
  | .list => .type "list"
  | .mn => .builtin "min"
  | .mx => .builtin "max"
  | .sum => .builtin "sum"
  | .all => .builtin "all"
  | .any => .builtin "any"
  | .abs => .builtin "abs"
  | .int => .type "int"
  | .str => .type "str"
  | .dict => .type "dict"
  | .isinst => .builtin "isinstance"
theorem bi_boot (f : Bi) : bootBuiltins (biN f) = some (biV f) := by cases f <;> decide +kernel
section
variable {X : Cx}
theorem CallR.imp {f : Value} {r r' : List V → Hp → VK → Prop} (h : CallR X f r) (q : ∀ xs H Q, r' xs H Q → r xs H Q) : CallR X f r' := fun pins s σ H xs us Q I a z => h pins s σ H xs us Q I a (q _ _ _ z)
theorem cr_no {f : Value} {r : List SV → Sto → SK → Prop} (h : ∀ xs S k, ¬ r xs S k) : CallR X f (LRs X.K r) := fun pins s σ H xs us Q I a z => by
  obtain ⟨_, _, _, _, _, _, _, z, _⟩ := z
  exact (h _ _ _ z).elim
theorem cr_r1 {f : Value} {r : SV → Sto → SK → Prop} {r' : List V → Hp → VK → Prop} (h : CallR X f r') (q : ∀ v H Q, LR1 X.K r v H Q → r' [v] H Q) : CallR X f (LRs X.K (r1 r)) := CallR.imp h fun xs H Q z => by
  obtain ⟨F, M, S, ys, k, rr, s, o, kk⟩ := z
  unfold r1 at o
  split at o
  · obtain ⟨v, rfl, rv⟩ := RepL.one rr
    exact q v H Q ⟨F, M, S, _, k, rv, s, o, kk⟩
  · cases o
theorem cr_r2 {f : Value} {r : SV → SV → Sto → SK → Prop} {r' : List V → Hp → VK → Prop} (h : CallR X f r') (q : ∀ v u H Q, LR2 X.K r v u H Q → r' [v, u] H Q) : CallR X f (LRs X.K (r2 r)) := CallR.imp h fun xs H Q z => by
  obtain ⟨F, M, S, ys, k, rr, s, o, kk⟩ := z
  unfold r2 at o
  split at o
  · obtain ⟨v, u, rfl, rv, ru⟩ := RepL.two rr
    exact q v u H Q ⟨F, M, S, _, _, k, rv, ru, s, o, kk⟩
  · cases o
theorem cr_len : CallR X (.builtin "len") (LRs X.K (r1 lenS)) := cr_r1 call_len fun v H Q z => by
  obtain ⟨F, M, S, x, k, rv, q, o, kk⟩ := z
  unfold lenS at o
  split at o
  · cases (show v = .str _ from rv)
    exact ⟨_, _, rfl, ⟨o.1, rfl⟩, kk.go q (show RepV X.K F (.int _) (.int _) from rfl) o.2⟩
  · obtain ⟨l, o1, o2⟩ := o
    obtain ⟨a, vs, rfl, h1, r1⟩ := seq_lt q rv o1
    rw [r1.length] at o2
    refine ⟨_, vs.length, rfl, ?_, kk.go q (show RepV X.K F (.int _) (.int _) from rfl) o2⟩
    rcases h1 with h1 | h1
    · exact .inl ⟨vs, h1, rfl⟩
    · exact .inr ⟨vs, h1, rfl⟩
/-- tuple of a list: the new object is known -/
theorem call_tupleK : CallR X (.type "tuple") (fun xs H Q => ∃ p ys, xs = [V.ref p] ∧ ((SqL X.K H p ys ∧ ∀ (l : Addr) (o : Obj), o.dict = none → H l = none → Q (.ref l) (upd H l (.frz o (.tup ys)))) ∨ (SqT X.K H p ys ∧ Q (.ref p) H))) := by
  intro pins s σ H xs us Q I r h
  obtain ⟨p, ys, rfl, h⟩ := h
  obtain ⟨u, rfl, rx⟩ := vals1 r
  cases rx
  rcases h with ⟨hq, q⟩ | ⟨hq, q⟩
  · obtain ⟨its, r', pl, hz⟩ := I.list hq
    have hlen := r'.length
    refine call_tuple_list pl.isList (fun h' kp => ?_) (by simp only [List.size_toArray] <;> omega)
    have I1 : Inv X pins σ H { s with heap := h' } := I.kept (t' := s.toks) kp
    have new : (h'.push { cls := .type "tuple", data := .seq its.toArray }).get? h'.objs.size = some { cls := .type "tuple", data := .seq its.toArray } := Heap.get?_push_size _ rfl
    refine ⟨.ref h'.objs.size, upd H h'.objs.size (.frz { cls := .type "tuple", data := .seq its.toArray } (.tup ys)), I1.laid (t' := s.toks) (fun b o e => Heap.get?_push_of_some _ e) (Nat.le_refl _) ⟨new, hz, its, r', ⟨_, new, rfl, _, rfl⟩⟩, rfl, q _ _ rfl (I1.hok.fresh (Nat.le_refl _))⟩
  · obtain ⟨its, r', pl, hz⟩ := I.tuple hq
    exact call_tuple_same pl ⟨.ref p, H, I, rfl, q⟩
theorem newU_ok {K : PySem.W.Frag} {F M H : Hp} {S : Sto} {xs : List SV} {vs : List V} {k : SK} {Q : VK} (q : Sim K F M S H) (r : RepL K F xs vs) (h : k (.tuf xs) S) (kk : Kk K F M k Q) {p : Addr} {o : Obj} (ho : o.dict = none) (hp : H p = none) : Q (.ref p) (upd H p (.frz o (.tup vs))) := by
  have s1 : Same F (upd F p (.frz o (.tup vs))) := Same.new (q.freeF hp)
  exact kk _ _ _ (.tuf xs) _ s1 (q.newF hp) ⟨p, vs, rfl, .inl ⟨o, upd_same, ho⟩, RepL.mono s1 _ _ r⟩ h
theorem cr_tupleN : ∀ own, CallR X (.type "tuple") (LRs X.K (r1 fun x S k => (∀ w, x ≠ .str w) ∧ tupleS own x S k))
  | true => cr_r1 call_tuple_of fun v H Q z => by
    obtain ⟨F, M, S, x, k, rv, q, o, kk⟩ := z
    obtain ⟨ns, o⟩ := o
    unfold tupleS at o
    split at o
    · obtain ⟨a, vs, rfl, h1, r1⟩ := tup_t q rv
      exact ⟨a, vs, rfl, .inr ⟨h1, kk.go q rv o⟩⟩
    · obtain ⟨a, vs, rfl, h1, r1⟩ := tuf_t q rv
      exact ⟨a, vs, rfl, .inr ⟨h1, kk.go q rv o⟩⟩
    · exact absurd rfl (ns _)
    · obtain ⟨l, o1, o2⟩ := o
      obtain ⟨a, vs, rfl, h1, r1⟩ := items_l q rv o1
      refine ⟨a, vs, rfl, .inl ⟨h1, fun p hp => ?_⟩⟩
      have s1 : Same F (upd F p (.tup vs)) := Same.new (q.freeF hp)
      exact kk _ _ _ (.tup l) _ s1 (q.newF hp) ⟨p, vs, rfl, upd_same, RepL.mono s1 _ _ r1⟩ o2
  | false => cr_r1 call_tupleK fun v H Q z => by
    obtain ⟨F, M, S, x, k, rv, q, o, kk⟩ := z
    obtain ⟨ns, o⟩ := o
    unfold tupleS at o
    split at o
    · obtain ⟨a, vs, rfl, h1, r1⟩ := tup_t q rv
      exact ⟨a, vs, rfl, .inr ⟨h1, kk.go q rv o⟩⟩
    · obtain ⟨a, vs, rfl, h1, r1⟩ := tuf_t q rv
      exact ⟨a, vs, rfl, .inr ⟨h1, kk.go q rv o⟩⟩
    · exact absurd rfl (ns _)
    · obtain ⟨l, o1, o2⟩ := o
      obtain ⟨a, vs, rfl, h1, r1⟩ := items_l q rv o1
      exact ⟨a, vs, rfl, .inl ⟨h1, fun p ob hd hp => newU_ok q r1 o2 kk hd hp⟩⟩
theorem vals_chars {acc : Array Value} {w : PySem.Str} (h : acc.size = w.cps.size ∧ ∀ (j : Nat) v, acc[j]? = some v → ∃ c u, w.cps[j]? = some c ∧ v = Value.str ⟨#[c]⟩ u) : Vals (w.cps.toList.map fun c => V.str ⟨#[c]⟩) acc.toList := by
  have go : ∀ (l : List Nat) (vs : List Value), vs.length = l.length → (∀ (j : Nat) v, vs[j]? = some v → ∃ c u, l[j]? = some c ∧ v = Value.str ⟨#[c]⟩ u) → Vals (l.map fun c => V.str ⟨#[c]⟩) vs := by
    intro l
    induction l with
    | nil =>
      intro vs hl _
      cases vs with
      | nil => exact .nil
      | cons _ _ => cases hl
    | cons c l ih =>
      intro vs hl hj
      cases vs with
      | nil => cases hl
      | cons v vs =>
        obtain ⟨c', u, h1, h2⟩ := hj 0 v rfl
        cases h1
        exact .cons ⟨u, h2⟩ (ih vs (by simpa using hl) fun j v hv => by
          obtain ⟨c2, u2, g1, g2⟩ := hj (j + 1) v (by simpa using hv)
          exact ⟨c2, u2, by simpa using g1, g2⟩)
  refine go _ _ (by simpa using h.1) fun j v hv => ?_
  obtain ⟨c, u, h1, h2⟩ := h.2 j v (by simpa using hv)
  exact ⟨c, u, by simpa using h1, h2⟩
theorem rep_chars {K : PySem.W.Frag} {F : Hp} : ∀ l : List Nat, RepL K F (l.map fun c => SV.str ⟨#[c]⟩) (l.map fun c => V.str ⟨#[c]⟩)
  | [] => rfl
  | c :: l => ⟨_, _, rfl, rfl, rep_chars l⟩
theorem cr_tuple (hc : X.calm = true) (own : Bool) : CallR X (.type "tuple") (LRs X.K (r1 (tupleS own))) := by
  intro pins s σ H ws us Q I rv z
  obtain ⟨F, M, S, xs, kq, rr, q, o, kk⟩ := z
  unfold Sy.r1 at o
  split at o
  · rename_i x
    have rest : (∀ w, x ≠ .str w) → wpAny (model X.prog X.w) X.A (call (.type "tuple") us) (EP X pins σ Q) X.xe s := fun ns => cr_tupleN own pins s σ H ws us Q I rv ⟨F, M, S, [x], kq, rr, q, ⟨ns, o⟩, kk⟩
    cases x with
    | str w =>
      obtain ⟨v, rfl, r0⟩ := RepL.one rr
      cases (show v = .str w from r0)
      obtain ⟨o1, o2⟩ := o
      obtain ⟨u, rfl, t, rfl⟩ := vals1 rv
      refine call_tuple_str (I.ok.hd hc) w t (fun h' tk acc kp hacc => ?_) o1
      have hv := vals_chars hacc
      have hz : (w.cps.toList.map fun c => V.str ⟨#[c]⟩).length ≤ sizeLine := by rw [List.length_map]; exact o1
      have I1 : Inv X pins σ H { s with heap := h', toks := tk } := I.kept kp
      have new : (h'.push { cls := .type "tuple", data := .seq acc }).get? h'.objs.size = some { cls := .type "tuple", data := .seq acc } := Heap.get?_push_size _ rfl
      have hn := I1.hok.fresh (Nat.le_refl h'.objs.size)
      cases own with
      | true =>
        have s1 : Same F (upd F h'.objs.size (.tup (w.cps.toList.map fun c => V.str ⟨#[c]⟩))) := Same.new (q.freeF hn)
        exact ⟨.ref h'.objs.size, _, I1.laid (t' := tk) (fun b o e => Heap.get?_push_of_some _ e) (Nat.le_refl _) (show ObjOk X.prog X.w _ _ _ (.tup _) from ⟨hz, acc.toList, hv, ⟨_, new, rfl, _, rfl⟩⟩), rfl,
          kk _ _ _ (.tup _) _ s1 (q.newF hn) ⟨_, _, rfl, upd_same, rep_chars _⟩ (by simpa using o2)⟩
      | false =>
        exact ⟨.ref h'.objs.size, upd H h'.objs.size (.frz { cls := .type "tuple", data := .seq acc } (.tup (w.cps.toList.map fun c => V.str ⟨#[c]⟩))), I1.laid (t' := tk) (fun b o e => Heap.get?_push_of_some _ e) (Nat.le_refl _) ⟨new, hz, acc.toList, hv, ⟨_, new, rfl, _, rfl⟩⟩, rfl,
          newU_ok q (rep_chars _) (by simpa using o2) kk rfl hn⟩
    | _ => exact rest (fun w e => by cases e)
  · cases o
/-! min and max of two texts -/
section
variable {prog : Program} {w : World} {A : Around} {E : Value → Shared → Prop} {s : Shared}
def txV : Value → List Nat
  | .str x _ => x.cps.toList
  | _ => []
theorem cmp_txt (op : CmpOp) (bt : List Nat → List Nat → Bool) {x y : PySem.Str} {t u : Tok}
    (hop : ∀ {s : Shared} {Q : Value → Shared → Prop} {E : Value → Shared → Prop} {x y : PySem.Str} {t u : Tok}, Q (.bool (bt x.cps.toList y.cps.toList)) s → wpAny (model prog w) A (richCompare op (.str x t) (.str y u)) Q E s) :
    CmpOf prog w A op (fun i v => (#[Value.str x t, Value.str y u] : Array Value)[i]? = some v) (fun i j => bt (txV ((#[Value.str x t, Value.str y u] : Array Value).getD i .none)) (txV ((#[Value.str x t, Value.str y u] : Array Value).getD j .none))) := by
  intro i j vi vj s Q E hi hj h
  have e1 : (#[Value.str x t, Value.str y u] : Array Value).getD i .none = vi := by simp [Array.getD_eq_getD_getElem?, hi]
  have e2 : (#[Value.str x t, Value.str y u] : Array Value).getD j .none = vj := by simp [Array.getD_eq_getD_getElem?, hj]
  simp only [e1, e2] at h
  have m1 := Array.mem_of_getElem? hi
  have m2 := Array.mem_of_getElem? hj
  have st : ∀ v, v ∈ (#[Value.str x t, Value.str y u] : Array Value) → ∃ z k, v = Value.str z k := fun v hv => by
    simp at hv
    rcases hv with e | e
    · exact ⟨_, _, e⟩
    · exact ⟨_, _, e⟩
  obtain ⟨z1, k1, rfl⟩ := st vi m1
  obtain ⟨z2, k2, rfl⟩ := st vj m2
  exact hop h
theorem min_two_str {x y : PySem.Str} {t u : Tok} {Q : Value → Shared → Prop} (hh : A.handled = none)
    (h : ∀ h' tk, (∀ c o, s.heap.get? c = some o → h'.get? c = some o) → Q (if y.cps.toList < x.cps.toList then .str y u else .str x t) { s with heap := h', toks := tk }) :
    wpAny (model prog w) A (call (.builtin "min") [.str x t, .str y u]) Q E s := by
  have hT : (s.heap.push { cls := .type "tuple", data := .seq #[.str x t, .str y u] }).IsTuple s.heap.objs.size #[.str x t, .str y u] := ⟨_, Heap.get?_push_size _ rfl, rfl, 0, rfl⟩
  refine call_min_two (wpAny_pyIter_tuple hT ?_)
  have hsz : (s.heap.push { cls := .type "tuple", data := .seq #[.str x t, .str y u] }).objs.size = s.heap.objs.size + 1 := Heap.size_push ..
  refine ⟨_, [_, s.heap.objs.size], [_], _, _, _, _, rfl, Walks.tuple (A := A.in1) hh _ s.heap.objs.size (by rw [hsz]; exact Nat.ne_of_lt (Nat.lt_succ_self _)) #[.str x t, .str y u],
    ⟨⟨_, Heap.get?_push_size _ rfl, rfl, rfl⟩, hT.push _⟩, fun c hc => ?_, by simp, cmp_txt (A := A.in1) .Lt (fun a b => decide (a < b)) (fun hq => PyProof.Rows.lt_str hq), fun v h' tk hP hk => ?_⟩
  · show c < ((s.heap.push _).push _).objs.size
    rw [Heap.size_push, hsz]
    rcases List.mem_cons.mp hc with rfl | hc
    · rw [hsz]; exact Nat.lt_succ_self _
    · rw [List.mem_singleton.mp hc]
      exact Nat.lt_succ_of_lt (Nat.lt_succ_self _)
  · have hold : ∀ c o, s.heap.get? c = some o → h'.get? c = some o := fun c o e => by
      refine hk c o (fun hm => ?_) (Heap.get?_push_of_some _ (Heap.get?_push_of_some _ e))
      have e1 := List.mem_singleton.mp hm
      have := Heap.lt_size e
      rw [e1, hsz] at this
      exact Nat.lt_irrefl _ (Nat.lt_of_succ_lt this)
    have := h h' tk hold
    have hv : v = if y.cps.toList < x.cps.toList then Value.str y u else .str x t := by
      by_cases hc : y.cps.toList < x.cps.toList
      · rw [if_pos hc]
        simp [argBest, txV, hc] at hP
        exact hP.symm
      · rw [if_neg hc]
        simp [argBest, txV, hc] at hP
        exact hP.symm
    rw [hv]
    exact this
theorem max_two_str {x y : PySem.Str} {t u : Tok} {Q : Value → Shared → Prop} (hh : A.handled = none)
    (h : ∀ h' tk, (∀ c o, s.heap.get? c = some o → h'.get? c = some o) → Q (if x.cps.toList < y.cps.toList then .str y u else .str x t) { s with heap := h', toks := tk }) :
    wpAny (model prog w) A (call (.builtin "max") [.str x t, .str y u]) Q E s := by
  have hT : (s.heap.push { cls := .type "tuple", data := .seq #[.str x t, .str y u] }).IsTuple s.heap.objs.size #[.str x t, .str y u] := ⟨_, Heap.get?_push_size _ rfl, rfl, 0, rfl⟩
  refine call_max_two (wpAny_pyIter_tuple hT ?_)
  have hsz : (s.heap.push { cls := .type "tuple", data := .seq #[.str x t, .str y u] }).objs.size = s.heap.objs.size + 1 := Heap.size_push ..
  refine ⟨_, [_, s.heap.objs.size], [_], _, _, _, _, rfl, Walks.tuple (A := A.in1) hh _ s.heap.objs.size (by rw [hsz]; exact Nat.ne_of_lt (Nat.lt_succ_self _)) #[.str x t, .str y u],
    ⟨⟨_, Heap.get?_push_size _ rfl, rfl, rfl⟩, hT.push _⟩, fun c hc => ?_, by simp, cmp_txt (A := A.in1) .Gt (fun a b => decide (b < a)) (fun hq => PySem.P.gt_str hq), fun v h' tk hP hk => ?_⟩
  · show c < ((s.heap.push _).push _).objs.size
    rw [Heap.size_push, hsz]
    rcases List.mem_cons.mp hc with rfl | hc
    · rw [hsz]; exact Nat.lt_succ_self _
    · rw [List.mem_singleton.mp hc]
      exact Nat.lt_succ_of_lt (Nat.lt_succ_self _)
  · have hold : ∀ c o, s.heap.get? c = some o → h'.get? c = some o := fun c o e => by
      refine hk c o (fun hm => ?_) (Heap.get?_push_of_some _ (Heap.get?_push_of_some _ e))
      have e1 := List.mem_singleton.mp hm
      have := Heap.lt_size e
      rw [e1, hsz] at this
      exact Nat.lt_irrefl _ (Nat.lt_of_succ_lt this)
    have := h h' tk hold
    have hv : v = if x.cps.toList < y.cps.toList then Value.str y u else .str x t := by
      by_cases hc : x.cps.toList < y.cps.toList
      · rw [if_pos hc]
        simp [argBest, txV, hc] at hP
        exact hP.symm
      · rw [if_neg hc]
        simp [argBest, txV, hc] at hP
        exact hP.symm
    rw [hv]
    exact this
end
def rMn2 : List V → Hp → VK → Prop := fun xs H Q => (∃ i j : Int, xs = [.int i, .int j] ∧ Q (.int (if j < i then j else i)) H) ∨ ∃ a b : PySem.Str, xs = [.str a, .str b] ∧ Q (.str (if b.cps.toList < a.cps.toList then b else a)) H
def rMx2 : List V → Hp → VK → Prop := fun xs H Q => (∃ i j : Int, xs = [.int i, .int j] ∧ Q (.int (if j > i then j else i)) H) ∨ ∃ a b : PySem.Str, xs = [.str a, .str b] ∧ Q (.str (if a.cps.toList < b.cps.toList then b else a)) H
theorem call_mn2 (hc : X.calm = true) : CallR X (.builtin "min") rMn2 := by
  intro pins s σ H xs us Q I r h
  rcases h with h | ⟨a, b, rfl, q⟩
  · exact call_min2 hc pins s σ H xs us Q I r h
  · obtain ⟨u, w', rfl, ⟨t, rfl⟩, ⟨t', rfl⟩⟩ := vals2 r
    refine min_two_str (I.ok.hd hc) fun h' tk k => ⟨_, H, I.kept k, ?_, q⟩
    by_cases hj : b.cps.toList < a.cps.toList
    · rw [if_pos hj, if_pos hj]; exact ⟨_, rfl⟩
    · rw [if_neg hj, if_neg hj]; exact ⟨_, rfl⟩
theorem call_mx2 (hc : X.calm = true) : CallR X (.builtin "max") rMx2 := by
  intro pins s σ H xs us Q I r h
  rcases h with h | ⟨a, b, rfl, q⟩
  · exact call_max2 hc pins s σ H xs us Q I r h
  · obtain ⟨u, w', rfl, ⟨t, rfl⟩, ⟨t', rfl⟩⟩ := vals2 r
    refine max_two_str (I.ok.hd hc) fun h' tk k => ⟨_, H, I.kept k, ?_, q⟩
    by_cases hj : a.cps.toList < b.cps.toList
    · rw [if_pos hj, if_pos hj]; exact ⟨_, rfl⟩
    · rw [if_neg hj, if_neg hj]; exact ⟨_, rfl⟩
theorem cr_mn (hc : X.calm = true) : CallR X (.builtin "min") (LRs X.K (r2 mnS)) := cr_r2 (call_mn2 hc) fun v u H Q z => by
  obtain ⟨F, M, S, x, y, k, rv, ru, q, o, kk⟩ := z
  unfold mnS at o
  split at o
  · rw [show v = .str _ from rv, show u = .str _ from ru]
    exact .inr ⟨_, _, rfl, kk.go q (show RepV X.K F (.str _) (.str _) from rfl) o⟩
  · rw [show v = .int _ from rv, show u = .int _ from ru]
    exact .inl ⟨_, _, rfl, kk.go q (show RepV X.K F (.int _) (.int _) from rfl) o⟩
  · cases o
theorem cr_mx (hc : X.calm = true) : CallR X (.builtin "max") (LRs X.K (r2 mxS)) := cr_r2 (call_mx2 hc) fun v u H Q z => by
  obtain ⟨F, M, S, x, y, k, rv, ru, q, o, kk⟩ := z
  unfold mxS at o
  split at o
  · rw [show v = .str _ from rv, show u = .str _ from ru]
    exact .inr ⟨_, _, rfl, kk.go q (show RepV X.K F (.str _) (.str _) from rfl) o⟩
  · rw [show v = .int _ from rv, show u = .int _ from ru]
    exact .inl ⟨_, _, rfl, kk.go q (show RepV X.K F (.int _) (.int _) from rfl) o⟩
  · cases o
theorem cr_abs : CallR X (.builtin "abs") (LRs X.K (r1 absS)) := cr_r1 call_abs fun v H Q z => by
  obtain ⟨F, M, S, x, k, rv, q, o, kk⟩ := z
  unfold absS at o
  split at o
  · rw [show v = .int _ from rv]
    exact ⟨_, rfl, kk.go q (show RepV X.K F (.int _) (.int _) from rfl) o⟩
  · cases o
theorem cr_int : CallR X (.type "int") (LRs X.K (r1 intS)) := cr_r1 call_int1 fun v H Q z => by
  obtain ⟨F, M, S, x, k, rv, q, o, kk⟩ := z
  unfold intS at o
  split at o
  · rw [show v = .int _ from rv]
    exact .inl ⟨_, rfl, kk.go q (show RepV X.K F (.int _) (.int _) from rfl) o⟩
  · rw [show v = .bl _ from rv]
    exact .inr ⟨_, rfl, kk.go q (show RepV X.K F (.int _) (.int _) from rfl) o⟩
  · cases o
theorem cr_str : CallR X (.type "str") (LRs X.K (r1 strS)) := cr_r1 call_str_int fun v H Q z => by
  obtain ⟨F, M, S, x, k, rv, q, o, kk⟩ := z
  unfold strS at o
  split at o
  · rename_i i
    rw [show v = .int _ from rv]
    refine ⟨_, rfl, ?_, kk.go q (show RepV X.K F (.str _) (.str _) from rfl) o.2⟩
    have h := o.1
    by_cases h0 : i.natAbs = 0
    · rw [h0]; decide
    · have := (Nat.log2_lt h0).mpr h
      omega
  · cases o
theorem cr_sumS (hc : X.calm = true) : CallR X (.builtin "sum") (LRs X.K (r1 sumS)) := cr_r1 (cr_sum hc) fun v H Q z => by
  obtain ⟨F, M, S, x, k, rv, q, ⟨l, n, o1, o2, o3⟩, kk⟩ := z
  obtain ⟨a, vs, rfl, h1, r1⟩ := items_l q rv o1
  obtain ⟨ns, rfl, e⟩ := rep_ints r1 o2
  exact ⟨a, ns, rfl, h1, kk.go q (show RepV X.K F (.int n) (.int ns.sum) from by rw [e]; rfl) o3⟩
theorem cr_allS (hc : X.calm = true) : CallR X (.builtin "all") (LRs X.K (r1 allS)) := cr_r1 (cr_all hc) fun v H Q z => by
  obtain ⟨F, M, S, x, k, rv, q, ⟨l, bs, o1, o2, o3⟩, kk⟩ := z
  obtain ⟨a, vs, rfl, h1, r1⟩ := items_l q rv o1
  rw [rep_bls r1 o2] at h1
  exact ⟨a, bs, rfl, h1, kk.go q (show RepV X.K F (.bl _) (.bl _) from rfl) o3⟩
theorem cr_anyS (hc : X.calm = true) : CallR X (.builtin "any") (LRs X.K (r1 anyS)) := cr_r1 (cr_any hc) fun v H Q z => by
  obtain ⟨F, M, S, x, k, rv, q, ⟨l, bs, o1, o2, o3⟩, kk⟩ := z
  obtain ⟨a, vs, rfl, h1, r1⟩ := items_l q rv o1
  rw [rep_bls r1 o2] at h1
  exact ⟨a, bs, rfl, h1, kk.go q (show RepV X.K F (.bl _) (.bl _) from rfl) o3⟩
theorem minD_mem : ∀ (dr : List PyData) (d0 : PyData), PySem.W.minD d0 dr ∈ d0 :: dr
  | [], d0 => List.mem_cons_self
  | d :: dr, d0 => by
    show PySem.W.minD (if _ then d else d0) dr ∈ _
    rcases List.mem_cons.mp (minD_mem dr (if PySem.W.dataLt d d0 = true then d else d0)) with e | h
    · unfold PySem.W.minD at e ⊢
      rw [e]
      split
      · exact List.mem_cons_of_mem _ List.mem_cons_self
      · exact List.mem_cons_self
    · exact List.mem_cons_of_mem _ (List.mem_cons_of_mem _ h)
theorem toDs_at : ∀ {l : List SV} {ds : List PyData} {i : Nat} {x : SV}, toDs l = some ds → l[i]? = some x → ∃ d, ds[i]? = some d ∧ toD x = some d
  | [], _, i, x, _, h => by simp at h
  | y :: l, ds, i, x, e, h => by
    have h' : ((toD y).bind fun d => (toDs l).map fun r => d :: r) = some ds := by simpa [toDs] using e
    obtain ⟨d, e1, e2⟩ := Option.bind_eq_some_iff.mp h'
    obtain ⟨r, e3, rfl⟩ := Option.map_eq_some_iff.mp e2
    cases i with
    | zero =>
      cases (show some y = some x from h)
      exact ⟨d, rfl, e1⟩
    | succ i =>
      obtain ⟨d', g1, g2⟩ := toDs_at e3 (by simpa using h)
      exact ⟨d', by simpa using g1, g2⟩
theorem canLay_mem : ∀ {ds : List PyData} {d : PyData}, PyData.canLayAll0 ds = true → d ∈ ds → d.canLay0 = true
  | [], _, _, h => nomatch h
  | x :: ds, d, h, hm => by
    simp only [PyData.canLayAll0, Bool.and_eq_true] at h
    rcases List.mem_cons.mp hm with e | hm
    · rw [e]; exact h.1
    · exact canLay_mem h.2 hm
theorem cr_mnA (hc : X.calm = true) (hu : X.A.units + 64 < cLine) : CallR X (.builtin "min") (LRs X.K mnA) := by
  intro pins s σ H xs us Q I a z
  obtain ⟨F, M, S, ys, k, rr, q, o, kk⟩ := z
  unfold mnA at o
  split at o
  · rename_i x
    obtain ⟨v, rfl, rv⟩ := RepL.one rr
    obtain ⟨l, d0, dr, o1, o2, o3, o4, hdp, o5⟩ := o
    obtain ⟨b, vs, rfl, h1, h2⟩ := items_l q rv o1
    obtain ⟨u, rfl, ru⟩ := vals1 a
    cases ru
    obtain ⟨its, r, pl, hz⟩ := I.list h1
    obtain ⟨as, hr⟩ := Dp.readsAll I (d0 :: dr) vs its (toDs_ok q.f l vs _ h2 o2) r
    have hcl : PyData.canLayAll0 (d0 :: dr) = true := SeqAt.canLay_of_shaped o4
    refine PySem.W.min_list_data (vs := its.toArray) (I.ok.hd hc) pl.isList (by simpa using hr) o3 (by omega) fun i w h' tk bs hw rd hk => ?_
    have hw' : its[i]? = some w := by simpa using hw
    obtain ⟨y, hy, ry⟩ : ∃ y, vs[i]? = some y ∧ RelV y w := by
      have hl := Paired.length r
      obtain ⟨hi, _⟩ := List.getElem?_eq_some_iff.mp hw'
      obtain ⟨y, e⟩ : ∃ y, vs[i]? = some y := ⟨_, List.getElem?_eq_getElem (by omega)⟩
      obtain ⟨w2, e2, r2⟩ := r.get e
      rw [hw'] at e2
      cases e2
      exact ⟨y, e, r2⟩
    obtain ⟨x2, hx2, rx2⟩ : ∃ x2, l[i]? = some x2 ∧ RepV X.K F x2 y := by
      obtain ⟨hi, _⟩ := List.getElem?_eq_some_iff.mp hy
      obtain ⟨x2, e⟩ : ∃ x2, l[i]? = some x2 := ⟨_, List.getElem?_eq_getElem (by rw [h2.length]; exact hi)⟩
      obtain ⟨v2, e2, r2⟩ := RepL.get h2 e
      rw [hy] at e2
      cases e2
      exact ⟨x2, e, r2⟩
    obtain ⟨d, hd, ed⟩ := toDs_at o2 hx2
    have I1 : Inv X pins σ H { s with heap := h', toks := tk } := I.kept (t' := tk) hk
    obtain ⟨cs, rd2⟩ := Dp.reads I1 d y w (toD_ok q.f x2 y d rx2 ed) ry
    have e1 := SeqAt.readOf_eq (canLay_mem hcl (List.mem_of_getElem? hd)) rd2
    have e2 := SeqAt.readOf_eq (canLay_mem hcl (minD_mem dr d0)) rd
    rw [e1] at e2
    exact ⟨y, H, I1, ry, kk.go q rx2 (o5 i x2 hx2 (by rw [ed, e2]))⟩
  · exact cr_mn hc pins s σ H xs us Q I a ⟨F, M, S, _, k, rr, q, o, kk⟩
  · cases o
theorem maxD_mem : ∀ (dr : List PyData) (d0 : PyData), PySem.W.maxD d0 dr ∈ d0 :: dr
  | [], d0 => List.mem_cons_self
  | d :: dr, d0 => by
    show PySem.W.maxD (if _ then d else d0) dr ∈ _
    rcases List.mem_cons.mp (maxD_mem dr (if PySem.W.dataLt d0 d = true then d else d0)) with e | h
    · unfold PySem.W.maxD at e ⊢
      rw [e]
      split
      · exact List.mem_cons_of_mem _ List.mem_cons_self
      · exact List.mem_cons_self
    · exact List.mem_cons_of_mem _ (List.mem_cons_of_mem _ h)
theorem cr_mxA (hc : X.calm = true) (hu : X.A.units + 64 < cLine) : CallR X (.builtin "max") (LRs X.K mxA) := by
  intro pins s σ H xs us Q I a z
  obtain ⟨F, M, S, ys, k, rr, q, o, kk⟩ := z
  unfold mxA at o
  split at o
  · rename_i x
    obtain ⟨v, rfl, rv⟩ := RepL.one rr
    obtain ⟨l, d0, dr, o1, o2, o3, o4, hdp, o5⟩ := o
    obtain ⟨b, vs, rfl, h1, h2⟩ := items_l q rv o1
    obtain ⟨u, rfl, ru⟩ := vals1 a
    cases ru
    obtain ⟨its, r, pl, hz⟩ := I.list h1
    obtain ⟨as, hr⟩ := Dp.readsAll I (d0 :: dr) vs its (toDs_ok q.f l vs _ h2 o2) r
    have hcl : PyData.canLayAll0 (d0 :: dr) = true := SeqAt.canLay_of_shaped o4
    refine PySem.W.max_list_data (vs := its.toArray) (I.ok.hd hc) pl.isList (by simpa using hr) o3 (by omega) fun i w h' tk bs hw rd hk => ?_
    have hw' : its[i]? = some w := by simpa using hw
    obtain ⟨y, hy, ry⟩ : ∃ y, vs[i]? = some y ∧ RelV y w := by
      have hl := Paired.length r
      obtain ⟨hi, _⟩ := List.getElem?_eq_some_iff.mp hw'
      obtain ⟨y, e⟩ : ∃ y, vs[i]? = some y := ⟨_, List.getElem?_eq_getElem (by omega)⟩
      obtain ⟨w2, e2, r2⟩ := r.get e
      rw [hw'] at e2
      cases e2
      exact ⟨y, e, r2⟩
    obtain ⟨x2, hx2, rx2⟩ : ∃ x2, l[i]? = some x2 ∧ RepV X.K F x2 y := by
      obtain ⟨hi, _⟩ := List.getElem?_eq_some_iff.mp hy
      obtain ⟨x2, e⟩ : ∃ x2, l[i]? = some x2 := ⟨_, List.getElem?_eq_getElem (by rw [h2.length]; exact hi)⟩
      obtain ⟨v2, e2, r2⟩ := RepL.get h2 e
      rw [hy] at e2
      cases e2
      exact ⟨x2, e, r2⟩
    obtain ⟨d, hd, ed⟩ := toDs_at o2 hx2
    have I1 : Inv X pins σ H { s with heap := h', toks := tk } := I.kept (t' := tk) hk
    obtain ⟨cs, rd2⟩ := Dp.reads I1 d y w (toD_ok q.f x2 y d rx2 ed) ry
    have e1 := SeqAt.readOf_eq (canLay_mem hcl (List.mem_of_getElem? hd)) rd2
    have e2 := SeqAt.readOf_eq (canLay_mem hcl (maxD_mem dr d0)) rd
    rw [e1] at e2
    exact ⟨y, H, I1, ry, kk.go q rx2 (o5 i x2 hx2 (by rw [ed, e2]))⟩
  · exact cr_mx hc pins s σ H xs us Q I a ⟨F, M, S, _, k, rr, q, o, kk⟩
  · cases o
theorem cr_bi (hc : X.calm = true) (hu : X.A.units + 64 < cLine) (f : Bi) (own : Bool) : CallR X (biV f) (LRs X.K (biS f own)) := by
  cases f with
  | len => exact cr_len
  | list => exact cr_list hc
  | tuple => exact cr_tuple hc _
  | mn => exact cr_mnA hc hu
  | mx => exact cr_mxA hc hu
  | abs => exact cr_abs
  | int => exact cr_int
  | sum => exact cr_sumS hc
  | all => exact cr_allS hc
  | any => exact cr_anyS hc
  | sorted => exact cr_sortedA hc hu
  | str => exact cr_str
  | _ => exact cr_no fun _ _ _ z => z
/-! ### methods of what is built in -/
theorem mtr_r1 {id : String} {r : SV → SV → Sto → SK → Prop} {r' : V → List V → Hp → VK → Prop} (h : MtR X id r') (q : ∀ v u H Q, LR2 X.K r v u H Q → r' v [u] H Q) : MtR X id (LRm X.K fun x => Sy.r1 (r x)) := by
  intro pins s σ H v vs V Vs Q I rv rvs z
  obtain ⟨F, M, S, x, xs, k, r1, rr, s1, o, kk⟩ := z
  unfold Sy.r1 at o
  split at o
  · obtain ⟨u, rfl, ru⟩ := RepL.one rr
    exact h pins s σ H v _ V Vs Q I rv rvs (q v u H Q ⟨F, M, S, x, _, k, r1, ru, s1, o, kk⟩)
  · cases o
theorem mtr_r0 {id : String} {r : SV → Sto → SK → Prop} {r' : V → List V → Hp → VK → Prop} (h : MtR X id r') (q : ∀ v H Q, LR1 X.K r v H Q → r' v [] H Q) : MtR X id (LRm X.K fun x => Sy.r0 (r x)) := by
  intro pins s σ H v vs V Vs Q I rv rvs z
  obtain ⟨F, M, S, x, xs, k, e1, rr, s1, o, kk⟩ := z
  unfold Sy.r0 at o
  split at o
  · cases (show vs = [] from rr)
    exact h pins s σ H v _ V Vs Q I rv rvs (q v H Q ⟨F, M, S, x, k, e1, s1, o, kk⟩)
  · cases o
theorem mt_pop0S : MtR X "list.pop" (LRm X.K fun x => r0 (pop0S x)) := mtr_r0 mt_pop fun v H Q z => by
  obtain ⟨F, M, S, x, k, rv, q, o, kk⟩ := z
  unfold pop0S at o
  split at o
  · obtain ⟨l, y, o1, o2, o3⟩ := o
    obtain ⟨_, w, hw, vs, rfl, hl⟩ := q.s _ _ o1
    obtain ⟨u, u1, u2⟩ := RepL.get hl o2
    rw [hl.length] at u1
    have hd : RepL X.K F l.dropLast vs.dropLast := by
      rw [List.dropLast_eq_take, List.dropLast_eq_take, hl.length]
      exact RepL.take _ hl
    exact ⟨_, vs, u, rv, rfl, hw, u1, kk.go (q.set (o' := .lst l.dropLast) (u := .lst vs.dropLast) o1 ⟨_, rfl, hd⟩) u2 o3⟩
  · cases o
theorem mt_clearS : MtR X "list.clear" (LRm X.K fun x => r0 (clearS x)) := mtr_r0 mt_clear fun v H Q z => by
  obtain ⟨F, M, S, x, k, rv, q, o, kk⟩ := z
  unfold clearS at o
  split at o
  · obtain ⟨l, o1, o3⟩ := o
    obtain ⟨_, w, hw, vs, rfl, hl⟩ := q.s _ _ o1
    exact ⟨_, vs, rv, rfl, hw, kk.go (q.set (o' := .lst []) (u := .lst []) o1 ⟨_, rfl, rfl⟩) (show RepV X.K F .non .non from rfl) o3⟩
  · cases o
theorem mt_insertS : MtR X "list.insert" (LRm X.K fun x => r2 (insertS x)) := by
  intro pins s σ H v vs V Vs Q I rv rvs z
  obtain ⟨F, M, S, x, xs, k, e1, rr, q, o, kk⟩ := z
  unfold Sy.r2 at o
  split at o
  · rename_i a b
    obtain ⟨u1, r1, rfl, ru, t, r2, rfl, ry, rfl⟩ := rr
    unfold insertS at o
    split at o
    · obtain ⟨l, o1, o2, o3, o4, o5⟩ := o
      obtain ⟨_, w, hw, ws, rfl, hl⟩ := q.s _ _ o1
      refine mt_insert pins s σ H v _ V Vs Q I rv rvs ⟨_, ws, _, t, e1, by rw [show u1 = .int _ from ru], hw, by rw [← hl.length]; exact o2, o3, by omega, ?_⟩
      exact kk.go (q.set (o' := .lst _) (u := .lst _) o1 ⟨_, rfl, RepL.append (RepL.append (RepL.take _ hl) (RepL.single ry)) (RepL.drop _ hl)⟩) (show RepV X.K F .non .non from rfl) o5
    · cases o
  · cases o
theorem mt_appendS : MtR X "list.append" (LRm X.K fun x => r1 (appendS x)) := mtr_r1 mt_append fun v u H Q z => by
  obtain ⟨F, M, S, x, y, k, rv, ru, q, o, kk⟩ := z
  unfold appendS at o
  split at o
  · obtain ⟨l, o1, o2, o3⟩ := o
    obtain ⟨_, w, hw, vs, rfl, hl⟩ := q.s _ _ o1
    refine ⟨_, vs, u, rv, rfl, hw, by rw [← hl.length]; exact o2, ?_⟩
    exact kk.go (q.set (o' := .lst (l ++ [y])) (u := .lst (vs ++ [u])) o1 ⟨_, rfl, RepL.append hl (RepL.single ru)⟩) (show RepV X.K F .non .non from rfl) o3
  · cases o
def rExtR : V → List V → Hp → VK → Prop := fun x vs H Q => ∃ l b xs zs, x = .ref l ∧ vs = [.ref b] ∧ H l = some (.lst xs) ∧ Rd H b (.lst zs) ∧ xs.length + zs.length ≤ sizeLine ∧ Q .non (upd H l (.lst (xs ++ zs)))
theorem mt_extR : MtR X "list.extend" rExtR := by
  intro pins s σ H x vs v us Q I rx rv h
  obtain ⟨l, b, xs, zs, rfl, rfl, hH, hB, hz, q⟩ := h
  cases rx
  obtain ⟨u, rfl, ru⟩ := rv.one
  cases ru
  obtain ⟨z, its, n, r, hl, e⟩ := I.lstM hH
  obtain ⟨z2, its2, n2, r2, e2⟩ := hB.ok I.hok
  have hl1 := r.length
  have hl2 := r2.length
  have hsz : its.toArray.size + its2.toArray.size ≤ sizeLine := by rw [List.size_toArray, List.size_toArray]; omega
  have hlong : ¬ (!its.toArray.isEmpty && Builtin.List.listTooLong (its.toArray.size + its2.toArray.size)) = true := by
    rw [notLongL hsz, Bool.and_false]
    exact Bool.false_ne_true
  refine call_meets F.slot_list_extend ⟨_, e, rfl⟩ F.entry_list_extend (F.args_list_extend_2 _ _)
    (AutoSeq1.list_extend_list_list_0 l its.toArray n b its2.toArray n2 hlong (by rw [List.size_toArray]; omega) (by omega)) ⟨e, e2, ?_⟩
  refine ⟨.non, _, I.lset (its' := its ++ its2) hH e (by simp) (r.append r2) ?_, rfl, q⟩
  rw [List.length_append]
  omega
theorem mt_extendS : MtR X "list.extend" (LRm X.K fun x => r1 (extendS x)) := mtr_r1 mt_extR fun v u H Q z => by
  obtain ⟨F, M, S, x, y, k, rv, ru, q, o, kk⟩ := z
  unfold extendS at o
  split at o
  · obtain ⟨l, r, o1, o2, o3, o4⟩ := o
    obtain ⟨_, w, hw, vs, rfl, hl⟩ := q.s _ _ o1
    obtain ⟨b, ws, rfl, h2, hr⟩ := items_rd q ru o2
    refine ⟨_, b, vs, ws, rv, rfl, hw, h2, by rw [← hl.length, ← hr.length]; exact o3, ?_⟩
    exact kk.go (q.set (o' := .lst (l ++ r)) (u := .lst (vs ++ ws)) o1 ⟨_, rfl, RepL.append hl hr⟩) (show RepV X.K F .non .non from rfl) o4
  · cases o
theorem mt_joinS : MtR X "str.join" (LRm X.K fun x => r1 (joinS x)) := mtr_r1 mt_join fun v u H Q z => by
  obtain ⟨F, M, S, x, y, k, rv, ru, q, o, kk⟩ := z
  unfold joinS at o
  split at o
  · obtain ⟨l, ys, o1, o2, o3, o4⟩ := o
    obtain ⟨a, vs, rfl, h1, hr⟩ := seq_lt q ru o1
    rw [rep_strL hr o2] at h1
    exact ⟨_, a, ys, rv, rfl, h1, o3, kk.go q (show RepV X.K F (.str _) (.str _) from rfl) o4⟩
  · cases o
theorem mt_sindexS : MtR X "str.index" (LRm X.K fun x => r1 (sindexS x)) := mtr_r1 mt_sindex fun v u H Q z => by
  obtain ⟨F, M, S, x, y, k, rv, ru, q, o, kk⟩ := z
  obtain ⟨a, b, i, rest, rfl, rfl, o1, o2⟩ := o
  exact ⟨a, b, i, rest, rv, by rw [show u = V.str b from ru], o1, kk.go q (show RepV X.K F (.int _) (.int _) from rfl) o2⟩
theorem rep_of_strs {K : PySem.W.Frag} {F : Hp} : ∀ ys : List PySem.Str, RepL K F (ys.map SV.str) (ys.map V.str)
  | [] => rfl
  | y :: ys => ⟨.str y, ys.map V.str, rfl, rfl, rep_of_strs ys⟩
theorem mt_splitS {own : Bool} : MtR X "str.split" (LRm X.K fun x => r1 (splitS own x)) := mtr_r1 mt_split fun v u H Q z => by
  obtain ⟨F, M, S, x, y, k, rv, ru, q, o, kk⟩ := z
  unfold splitS at o
  split at o
  · obtain ⟨o1, o2, o3⟩ := o
    exact ⟨_, _, rv, by rw [show u = .str _ from ru], o1, o2, fun p hp => newL_ok q (rep_of_strs _) o3 kk hp⟩
  · cases o
theorem RepL.erase {K : PySem.W.Frag} {F : Hp} : ∀ {l : List SV} {vs : List V} (i : Nat), RepL K F l vs → RepL K F (l.eraseIdx i) (vs.eraseIdx i)
  | [], _, i, h => by rw [show _ = ([] : List V) from h, List.eraseIdx_nil, List.eraseIdx_nil]; exact rfl
  | x :: l, _, 0, ⟨v, r, h1, h2, h3⟩ => by rw [h1]; exact h3
  | x :: l, _, i + 1, ⟨v, r, h1, h2, h3⟩ => ⟨v, r.eraseIdx i, by rw [h1]; rfl, h2, RepL.erase i h3⟩
theorem mt_popS : MtR X "list.pop" (LRm X.K fun x => r1 (popS x)) := mtr_r1 mt_popAt fun v u H Q z => by
  obtain ⟨F, M, S, x, y, k, rv, ru, q, o, kk⟩ := z
  unfold popS at o
  split at o
  · obtain ⟨l, j, y, o1, o2, o3, o4, o5, o6⟩ := o
    obtain ⟨_, w, hw, vs, rfl, hl⟩ := q.s _ _ o1
    obtain ⟨z, z1, z2⟩ := RepL.get hl o5
    rw [hl.length] at o4
    refine ⟨_, vs, _, j, z, rv, by rw [show u = .int _ from ru], hw, by omega, by omega, (ixN_seq o4).1, z1, ?_⟩
    exact kk.go (q.set (o' := .lst (l.eraseIdx j)) (u := .lst (vs.eraseIdx j)) o1 ⟨_, rfl, RepL.erase j hl⟩) z2 o6
  · cases o
theorem rep_map_str {K : PySem.W.Frag} {F : Hp} : ∀ {ws : List PySem.Str} {vs : List V}, RepL K F (ws.map SV.str) vs → vs = ws.map V.str
  | [], _, h => h
  | w :: ws, _, ⟨v, r, h1, h2, h3⟩ => by
    rw [h1, rep_map_str h3, show v = .str w from h2]
    rfl
theorem strs_are : ∀ {ws : List PySem.Str} {us : List Value}, Vals (ws.map V.str) us → StrsAre us ws
  | [], us, h => by
    cases h
    exact .nil
  | w :: ws, us, h => by
    cases h with
    | cons a b =>
      obtain ⟨t, rfl⟩ := a
      exact .cons w t (strs_are b)
theorem mt_indexT : MtR X "tuple.index" (fun x vs H Q => ∃ (l : Addr) (ws : List PySem.Str) (a : PySem.Str), x = .ref l ∧ vs = [.str a] ∧ SqT X.K H l (ws.map V.str) ∧ a ∈ ws ∧ Q (.int (ws.idxOf a : Nat)) H) := by
  intro pins s σ H x vs v us Q I rx rv h
  obtain ⟨l, ws, a, rfl, rfl, hs, ha, q⟩ := h
  cases rx
  obtain ⟨u, rfl, t, rfl⟩ := rv.one
  obtain ⟨its, r', pl, hz⟩ := I.tuple hs
  exact PySem.SeqAt.tuple_index_strs (show s.heap.IsTuple l its.toArray from pl) (strs_are r') ha ⟨.int (ws.idxOf a : Nat), H, I.tok _, ⟨_, rfl⟩, q⟩
theorem mt_indexTS : MtR X "tuple.index" (LRm X.K fun x v S k => (∃ l, x = .tuf l) ∧ r1 (indexS x) v S k) := by
  intro pins s σ H v vs V Vs Q I rv rvs z
  obtain ⟨F, M, S, x, xs, k, r1', rr, q, o, kk⟩ := z
  obtain ⟨⟨l, rfl⟩, o⟩ := o
  unfold Sy.r1 at o
  split at o
  · obtain ⟨u, rfl, ru⟩ := RepL.one rr
    obtain ⟨ws, a, o1, rfl, o2, o3⟩ := o
    cases (show some l = some _ from o1)
    obtain ⟨b, vs, rfl, h1, r2⟩ := tuf_t q r1'
    have := rep_map_str r2
    subst this
    exact mt_indexT pins s σ H _ _ V Vs Q I rv rvs ⟨b, ws, a, rfl, by rw [show u = .str a from ru], h1, o2, kk.go q (show RepV X.K F (.int _) (.int _) from rfl) o3⟩
  · cases o
theorem mt_countD (hu : X.A.units + 65 < cLine) : MtR X "list.count" (fun x xs H Q => ∃ (a : Addr) (y : V) (d : PyData) (ds : List PyData), x = V.ref a ∧ xs = [y] ∧ Dp X.K H (V.ref a) (.list ds) ∧ Dp X.K H y d ∧
    SeqAt.shaped (.list ds) = true ∧ SeqAt.shaped d = true ∧ Q (.int (ds.countP fun z => PyData.eqv z d : Nat)) H) := by
  intro pins s σ H x xs v us Q I rx rxs h
  obtain ⟨a, y, d, ds, rfl, rfl, hl, hy, sl, sd, q⟩ := h
  cases rx
  cases rxs with
  | cons ry rt =>
    rename_i uy ut
    cases rt
    obtain ⟨bs, r1⟩ := Dp.reads I d y uy hy ry
    have hxs : PyData.canLayAll0 ds = true := SeqAt.canLay_of_shaped sl
    have hroom : X.A.units + 1 + min (PyData.depthAll ds) d.depth < cLine := room_in_shaped sd hu
    cases hl with
    | lst hs ha =>
      obtain ⟨its, rv, ⟨⟨cls, dd, data, sls⟩, n, ho, hc, hdn, hdt⟩, hlen⟩ := I.list hs
      simp only at hc hdt
      subst hc hdt
      obtain ⟨as, h4⟩ := Dp.readsAll I ds _ its ha rv
      have hmap : its.map (SeqAt.readOf s.heap) = ds := SeqAt.readsAll_map ds its as hxs h4
      refine call_meets PySem.F.slot_list_count ⟨_, ho, rfl⟩ PySem.F.entry_list_count (PySem.F.args_list_count_2 _ _)
        (SeqAt.list_countAt a its.toArray n dd sls uy (fun u => PyData.eqv (SeqAt.readOf s.heap u) d)) ⟨ho, SeqAt.items_eqAt (vs := its.toArray) (show ReadsAll s.heap its.toArray.toList ds as from h4) r1 hxs (SeqAt.canLay_of_shaped sd) hroom, ?_⟩
      have e : its.toArray.toList.countP (fun u => PyData.eqv (SeqAt.readOf s.heap u) d) = ds.countP fun z => PyData.eqv z d := by
        rw [← hmap, List.countP_map]
        rfl
      rw [e]
      exact ⟨.int _, H, I.tok _, ⟨_, rfl⟩, q⟩
theorem lst_dp {K : PySem.W.Frag} {F M H : Hp} {S : Sto} (q : Sim K F M S H) {x : SV} {v : V} {l : List SV} {ds : List PyData} (r : RepV K F x v) (h : items S x = some l) (e : toDs l = some ds) : ∃ a, v = .ref a ∧ Dp K H (.ref a) (.list ds) := by
  obtain ⟨a, vs, rfl, h1, h2⟩ := items_l q r h
  exact ⟨a, rfl, .lst h1 (toDs_ok q.f l vs ds h2 e)⟩
theorem mt_countS (hu : X.A.units + 65 < cLine) : MtR X "list.count" (LRm X.K fun x => r1 (lcountS x)) := mtr_r1 (mt_countD hu) fun v u H Q z => by
  obtain ⟨F, M, S, x, y, k, rv, ru, q, ⟨l, ds, d, o1, o2, o3, o4, o5, o6⟩, kk⟩ := z
  obtain ⟨a, rfl, hd⟩ := lst_dp q rv o1 o2
  exact ⟨a, u, d, ds, rfl, rfl, hd, toD_ok q.f _ _ d ru o3, o4, o5, kk.go q (show RepV X.K F (.int _) (.int _) from rfl) o6⟩
theorem mt_indexLS (hu : X.A.units + 65 < cLine) : MtR X "list.index" (LRm X.K fun x => r1 (lindexS x)) := mtr_r1 (mt_indexD hu) fun v u H Q z => by
  obtain ⟨F, M, S, x, y, k, rv, ru, q, ⟨l, ds, d, j, w, o1, o2, o3, o4, o5, o6, o7, o8, o9⟩, kk⟩ := z
  obtain ⟨a, rfl, hd⟩ := lst_dp q rv o1 o2
  exact ⟨a, u, d, ds, j, w, rfl, rfl, hd, toD_ok q.f _ _ d ru o3, o4, o5, o6, o7, o8, kk.go q (show RepV X.K F (.int _) (.int _) from rfl) o9⟩
theorem mt_removeD (hu : X.A.units + 65 < cLine) : MtR X "list.remove" (fun x xs H Q => ∃ (a : Addr) (y : V) (d : PyData) (ds : List PyData) (vs : List V) (j : Nat) (z : PyData), x = V.ref a ∧ xs = [y] ∧ H a = some (.lst vs) ∧ DpAll X.K H vs ds ∧ Dp X.K H y d ∧
    SeqAt.shaped (.list ds) = true ∧ SeqAt.shaped d = true ∧ ds[j]? = some z ∧ PyData.eqv z d = true ∧ (∀ m z', m < j → ds[m]? = some z' → PyData.eqv z' d = false) ∧ Q .non (upd H a (.lst (vs.eraseIdx j)))) := by
  intro pins s σ H x xs v us Q I rx rxs h
  obtain ⟨a, y, d, ds, vs, j, z, rfl, rfl, hH, hl, hy, sl, sd, hj, hz, hno, q⟩ := h
  cases rx
  cases rxs with
  | cons ry rt =>
    rename_i uy ut
    cases rt
    obtain ⟨bs, r1⟩ := Dp.reads I d y uy hy ry
    have hxs : PyData.canLayAll0 ds = true := SeqAt.canLay_of_shaped sl
    have hroom : X.A.units + 1 + min (PyData.depthAll ds) d.depth < cLine := room_in_shaped sd hu
    obtain ⟨zz, its, n, r, hln, ho⟩ := I.lstM hH
    obtain ⟨as, h4⟩ := Dp.readsAll I ds _ its hl r
    have hmap : its.map (SeqAt.readOf s.heap) = ds := SeqAt.readsAll_map ds its as hxs h4
    have hdl : ds.length = its.length := by rw [← hmap, List.length_map]
    have at_ : ∀ (m : Nat) (hm : m < its.toArray.size), ds[m]? = some (SeqAt.readOf s.heap its.toArray[m]) := fun m hm => by
      rw [← hmap, List.getElem?_map]
      have hm' : m < its.length := by simpa using hm
      rw [List.getElem?_eq_getElem hm']
      simp
    have hjl : j < its.toArray.size := by
      have := (List.getElem?_eq_some_iff.mp hj).1
      rw [List.size_toArray]
      omega
    refine call_meets PySem.F.slot_list_remove ⟨_, ho, rfl⟩ PySem.F.entry_list_remove (PySem.F.args_list_remove_2 _ _)
      (SeqAt.list_removeAt a its.toArray n none #[] uy (fun u => PyData.eqv (SeqAt.readOf s.heap u) d) j hjl ?_ ?_ (by rw [List.size_toArray]; omega)) ⟨ho, SeqAt.items_eqAt (vs := its.toArray) (show ReadsAll s.heap its.toArray.toList ds as from h4) r1 hxs (SeqAt.canLay_of_shaped sd) hroom, ?_⟩
    · have := at_ j hjl
      rw [hj] at this
      cases this
      exact hz
    · intro m hm hmj
      exact hno m _ hmj (at_ m hm)
    · refine ⟨.non, _, I.lset (its' := its.eraseIdx j) (t' := s.toks) hH ho ?_ (r.eraseIdx j) ?_, rfl, q⟩
      · show its.toArray.eraseIdxIfInBounds j = (its.eraseIdx j).toArray
        rw [List.eraseIdxIfInBounds_toArray]
      · exact Nat.le_trans (List.length_eraseIdx_le _ _) zz
theorem mt_removeS (hu : X.A.units + 65 < cLine) : MtR X "list.remove" (LRm X.K fun x => r1 (removeS x)) := mtr_r1 (mt_removeD hu) fun v u H Q z => by
  obtain ⟨F, M, S, x, y, k, rv, ru, q, o, kk⟩ := z
  unfold removeS at o
  split at o
  · obtain ⟨l, ds, d, j, w, o1, o2, o3, o4, o5, o6, o7, o8, o9⟩ := o
    obtain ⟨_, uo, hw, vs, rfl, hl⟩ := q.s _ _ o1
    refine ⟨_, u, d, ds, vs, j, w, rv, rfl, hw, toDs_ok q.f l vs ds hl o2, toD_ok q.f _ _ d ru o3, o4, o5, o6, o7, o8, ?_⟩
    exact kk.go (q.set (o' := .lst (l.eraseIdx j)) (u := .lst (vs.eraseIdx j)) o1 ⟨_, rfl, RepL.erase j hl⟩) (show RepV X.K F .non .non from rfl) o9
  · cases o
end
end Sy

namespace Sy
open PySem PySem.Spec PyProof.Rows L2

/-! ### what is plain of a tree that was looked at -/
def plE : PySem.Expr → Bool
  | .Name _ _ => true
  | .Constant _ _ _ => true
  | .List _ _ => true
  | .Tuple _ _ _ => true
  | .BinOp _ _ _ _ => true
  | .Compare _ _ _ _ => true
  | .BoolOp _ _ _ => true
  | .UnaryOp _ _ _ => true
  | .IfExp _ _ _ _ => true
  | .Subscript _ _ _ => true
  | .Call (.Name f _) _ _ _ => f != "super"
  | .Call _ _ _ _ => true
  | .ListComp _ _ _ _ => true
  | .Attribute _ _ _ => true
  | .Dict _ _ _ => true
  | _ => false
def boE : PySem.Expr → Bool
  | .BoolOp _ _ _ => true
  | .UnaryOp .Not _ _ => true
  | .IfExp _ _ _ _ => true
  | .Compare _ _ _ _ => true
  | _ => false
theorem bi_super (f : Bi) : (biN f != "super") = true := by cases f <;> decide +kernel
theorem pl_star {e : PySem.Expr} (h : plE e = true) (es : List PySem.Expr) (env : Env) : starEach (e :: es) env = (false, eval e env) :: starEach es env := by
  cases e <;> first | rfl | cases h
theorem pl_fold {e : PySem.Expr} (h : plE e = true) (env : Env) (x : Value) : foldedSetIterable e env x = pure x := by
  cases e <;> first | rfl | cases h
theorem pl_mark {e : PySem.Expr} (h : plE e = true) (op : CmpOp) : behindInMarks op e = false := by
  cases e <;> first | rfl | cases h
theorem pl_ix {e : PySem.Expr} (h : plE e = true) : PlainIx e := by
  cases e <;> first | (intro _ _; rfl) | cases h
theorem pl_swap {e : PySem.Expr} (h : plE e = true) (hl : lcE e = false) (t : Option PySem.Expr) (l : Nat) (env : Env) : swapsWith e t l env = pure false := by
  cases e <;> first | rfl | (cases hl; done) | (cases h; done)
theorem pl_tru {e : PySem.Expr} (h : plE e = true) (hb : boE e = false) (env : Env) (whole : Sem Value) : PySem.isTrue e env whole = (do let v ← whole; standAt e.pos; holding [v] (truthy v)) := by
  cases e with
  | UnaryOp op a p => cases op <;> first | rfl | (cases hb; done)
  | _ => first | rfl | (cases hb; done) | (cases h; done)
theorem pl_attr {e : PySem.Expr} (h : plE e = true) (a : PySem.Str) (env : Env) (whole : Sem Value) : attributeBase e a env whole = whole := by
  cases e with
  | Call f es ks p =>
    cases f with
    | Name x q =>
      cases es with
      | nil =>
        cases ks with
        | nil =>
          unfold attributeBase
          have hx : (x != PySem.Str.ofString "super") = true := h
          simp only [hx, Bool.true_or, if_true]
        | cons _ _ => rfl
      | cons _ _ => rfl
    | _ => rfl
  | _ => first | rfl | cases h

theorem lstRE_pl {e : PySem.Expr} {t} (h : lstRE e = some t) : plE e = true := by
  unfold lstRE at h
  split at h
  · rfl
  · cases h
theorem pl_of {N : Ck} {sc : Scope} {m : ME} {e : PySem.Expr} (h : cE N sc m e = true) (hT : ("super" : PySem.Str) ∉ N.T) : plE e = true := by
  unfold cE at h
  split at h <;> first | rfl | (cases h; done) | skip
  all_goals first
    | (simp only [Bool.and_eq_true, decide_eq_true_eq] at h
       first
         | (obtain ⟨⟨⟨rfl, _⟩, h⟩, _⟩ := h
            show (_ != _) = true
            refine bne_iff_ne.mpr fun z => hT ?_
            rw [← z]
            exact h)
         | (obtain ⟨⟨rfl, _⟩, _⟩ := h
            exact bi_super _)
         | (obtain ⟨⟨⟨⟨⟨rfl, _⟩, _⟩, _⟩, _⟩, _⟩ := h
            show (_ != _) = true
            first | decide +kernel | (split <;> decide +kernel))
         | (obtain ⟨⟨⟨⟨rfl, _⟩, _⟩, _⟩, _⟩ := h
            show (_ != _) = true
            first | decide +kernel | (split <;> decide +kernel))
         | (obtain ⟨⟨rfl, _⟩, _⟩ := h
            show (_ != _) = true
            first | decide +kernel | (split <;> decide +kernel))
         | (obtain ⟨⟨⟨⟨rfl, _⟩, h⟩, _⟩, _⟩ := h
            exact h))
    | (split at h
       · rename_i hc
         exact lstRE_pl hc
       · cases h)
end Sy

namespace Sy
open PySem PySem.Spec PyProof.Rows L2

/-! ### enumerate of a list or a tuple -/
theorem enum_new {v : Value} {o : Obj} {Hq : Heap → Prop} (B : Begins v o Hq) :
    Meets (Builtin.«enumerate.__new__» ⟨[.type "enumerate", v], []⟩) (fun _ R s => Hq s.heap ∧
      R (.ok (.ret (.ref (s.heap.push o).objs.size))) { s with heap := (s.heap.push o).push { cls := .type "enumerate", data := .fields #[.none, .bool false, .ref s.heap.objs.size, rawInt 0, .none, .none] } }) :=
  .of_wp fun prog w A R s z => by
    obtain ⟨hp, gs, dr, tk, os⟩ := s
    obtain ⟨z1, z2⟩ := z
    have hsub := sub_enumerate
    have it : ∀ {A' : Around} {E : Value → Shared → Prop} {Q : Value → Shared → Prop}, Q (.ref hp.objs.size) ⟨hp.push o, gs, dr, tk, os⟩ → wpAny (model prog w) A' (pyIter v) Q E ⟨hp, gs, dr, tk, os⟩ := fun q => B.iter prog w _ _ ⟨hp, gs, dr, tk, os⟩ _ z1 q
    wp_walk using it
    refine wpAny_stack_any fun _ => wpAny_pure ?_
    split
    · rename_i c _ _ _ _ _
      cases (c == Value.type "enumerate") <;> (wp_walk using it; exact ⟨_, rfl, z2⟩)
    · wp_walk using it
      exact ⟨_, rfl, z2⟩
theorem enum_call {prog : Program} {w : World} {A : Around} {E : Value → Shared → Prop} {s : Shared} {v : Value} {o : Obj} {Hq : Heap → Prop} {Q : Value → Shared → Prop} (B : Begins v o Hq) (h1 : Hq s.heap)
    (h : ∀ h', IsEnum h' (s.heap.objs.size + 1) s.heap.objs.size 0 .none → h'.get? s.heap.objs.size = some o → (∀ b u, s.heap.get? b = some u → h'.get? b = some u) → Q (.ref (s.heap.objs.size + 1)) { s with heap := h' }) :
    wpAny (model prog w) A (call (.type "enumerate") [v]) Q E s := by
  refine callType_new F.called_enumerate (by decide) (F.typeCall_enumerate_1 _) (F.newCall_enumerate_1 _) (fun obj => F.args_object_init_2 obj _) F.entry_enumerate_new (enum_new B) ⟨h1, ?_⟩
  have sz : (s.heap.push o).objs.size = s.heap.objs.size + 1 := Heap.size_push ..
  show _ ∧ _
  rw [sz]
  have en : IsEnum ((s.heap.push o).push { cls := .type "enumerate", data := .fields #[.none, .bool false, .ref s.heap.objs.size, rawInt 0, .none, .none] }) (s.heap.objs.size + 1) s.heap.objs.size 0 .none := by
    have e := Heap.get?_push_size (s.heap.push o) (o := { cls := .type "enumerate", data := .fields #[.none, .bool false, .ref s.heap.objs.size, rawInt 0, .none, .none] }) rfl
    rw [sz] at e
    exact e
  exact ⟨⟨_, en, rfl⟩, h _ en (Heap.get?_push_of_some _ (Heap.get?_push_size _ B.free)) fun b u x => Heap.get?_push_of_some _ (Heap.get?_push_of_some _ x)⟩
/-- (0, x), (1, y), .. of the tuple at a -/
def ItT (K : PySem.W.Frag) (a : Addr) : It :=
  ⟨fun i H => ∃ (xs : List V) (x : V), SqT K H a xs ∧ xs[i]? = some x, fun i H v H' => ∃ T x, v = .ref T ∧ H T = none ∧ H' = upd H T (.tup [.int (i : Nat), x]) ∧ ∀ xs, SqT K H a xs → xs[i]? = some x, fun i H => ∃ xs : List V, SqT K H a xs ∧ xs.length = i⟩
theorem turn_enT {P : Program} {w : World} {K : PySem.W.Frag} {es : List PySem.Expr} {kk : Nat} {tpos : Pos} (a e it : Addr) :
    Turn P w K (.Tuple es kk tpos) (ItT K a) [e, it] e (fun i h => (∃ old, IsEnum h e it ((i : Nat) : Int) old) ∧ h.IsTupleIter it a i ∧ e ≠ it ∧ a ≠ it ∧ e ≠ a) where
  mem := by simp
  obj := fun i h st b hb => by
    obtain ⟨⟨old, he⟩, ⟨o, ho, hc, hd⟩, _⟩ := st
    rcases (show b = e ∨ b = it by simpa using hb) with z | z
    · rw [z]; exact ⟨_, he, fun v q => nomatch q⟩
    · rw [z]; exact ⟨o, ho, fun v q => by rw [hd] at q; cases q⟩
  keep := fun i h h' st kp => by
    obtain ⟨⟨old, he⟩, hi, ne⟩ := st
    exact ⟨⟨old, kp e (by simp) _ he⟩, hi.at fun o q => kp it (by simp) o q, ne⟩
  item := by
    intro X hP hw hK hc i pins s σ H E I hf st hg
    subst hP hw hK
    obtain ⟨⟨old, he⟩, hit, n1, n2, n3⟩ := st
    obtain ⟨xs, x, hq, hx⟩ := hg
    obtain ⟨its, rv, p, hz⟩ := I.tuple hq
    obtain ⟨u, hu, ru⟩ := rv.get hx
    have lte : e < s.heap.objs.size := Heap.lt_size he
    have lti : it < s.heap.objs.size := by
      obtain ⟨_, q, _⟩ := hit
      exact Heap.lt_size q
    have pT : s.heap.IsTuple a its.toArray := p
    refine wpAny_pyNext_enum_itemD (Draws.tuple (A := X.A.in1) (I.ok.hd hc) it a n2 its.toArray) he ⟨hit, pT⟩ (by have := (List.getElem?_eq_some_iff.mp hu).1; simpa using this) n1 (by simp; exact ⟨n1, n3⟩) fun y h' tk hy ho hst' hT hsz kp => ?_
    have ey : y = u := by
      have hy' : its[i]? = some y := by simpa using hy
      rw [hu] at hy'
      exact (Option.some.inj hy').symm
    subst ey
    refine ⟨_, rfl, wpAny_letOwnedTupleGo_enum (s := { s with heap := h', toks := tk + 1 }) ho fun h2 he2 sb => ?_⟩
    have hT2 : h2.get? s.heap.objs.size = some { cls := .type "tuple", data := .seq #[.int i tk, y] } := (sb.2 _ (Nat.ne_of_gt lte)).trans hT
    have laid : ObjOk X.prog X.w (upd H s.heap.objs.size (.tup [.int (i : Nat), x])) h2 s.heap.objs.size (.tup [.int (i : Nat), x]) := ⟨by show 2 ≤ sizeLine; decide, [.int i tk, y], .cons ⟨_, rfl⟩ (.cons ru .nil), ⟨_, hT2, rfl, _, rfl⟩⟩
    have J : Inv X pins σ (upd H s.heap.objs.size (.tup [.int (i : Nat), x])) { s with heap := h2, toks := tk + 1 } :=
      I.turnedNew (ch := [e, it]) (fun b ob hb q => (sb.2 b (fun z => hb (by simp [z]))).trans (kp b ob (fun z => hb (by simp [z])) (fun z => hb (by simp [z])) q)) hf (Nat.le_refl _) laid
    refine ⟨.ref s.heap.objs.size, _, J, rfl, ⟨_, x, rfl, I.hok.fresh (Nat.le_refl _), rfl, fun ys hy => by rw [I.tuple_inj hy hq]; exact hx⟩, ⟨⟨y, ?_⟩, hst'.1.at fun o q => (sb.2 it (Ne.symm n1)).trans q, n1, n2, n3⟩, fun b hb => ?_⟩
    · rw [show ((i + 1 : Nat) : Int) = (i : Int) + 1 by omega]
      exact he2
    · have hb' : b < s.heap.objs.size := by
        rcases (show b = e ∨ b = it by simpa using hb) with z | z
        · rw [z]; exact lte
        · rw [z]; exact lti
      rw [upd_ne (Nat.ne_of_lt hb')]
      exact (hf b hb).1
  done := by
    intro X hP hw hK hc i pins s σ H E I hf st hg
    subst hP hw hK
    obtain ⟨⟨old, he⟩, hit, n1, n2, n3⟩ := st
    obtain ⟨xs, hq, hx⟩ := hg
    obtain ⟨its, rv, p, hz⟩ := I.tuple hq
    obtain ⟨f0, f1, f2, f3, f4, f5⟩ := hf it (by simp)
    have hl := rv.length
    have pT : s.heap.IsTuple a its.toArray := p
    have ei : i = its.toArray.size := by rw [List.size_toArray, ← hl, hx]
    subst ei
    exact wpAny_pyNext_enum_endD (Draws.tuple (A := X.A.in1) (I.ok.hd hc) it a n2 its.toArray) he ⟨hit, pT⟩ fun h' eb => ⟨rfl, I.turned (t' := s.toks) (fun b o hb q => eb b o hb q) f0 f1 f3 f4 f5⟩
  self := fun A i s Q E st h => by
    obtain ⟨⟨_, he⟩, _⟩ := st
    exact wpAny_pyIter_enum he h

/-- enumerate(e), e a list or a tuple -/
def iEnA (K : PySem.W.Frag) (ta : TA) : TI := fun σ H R => ta σ H fun vs H1 => ∃ a xs, vs = [.ref a] ∧ ((SqL K H1 a xs ∧ R (Ite K a) H1) ∨ (SqT K H1 a xs ∧ R (ItT K a) H1))
theorem pi_enA {X : Cx} {e : PySem.Expr} {ta : TA} {p pos tpos : Pos} {es : List PySem.Expr} {kk : Nat} (hg : Gl X "enumerate") (hm : X.mg "enumerate" = none) (ha : PA X [e] ta) (hs : starEach [e] X.env = [(false, eval e X.env)]) :
    PI X (.Tuple es kk tpos) (.Call (.Name "enumerate" p) [e] [] pos) (iEnA X.K ta) := by
  refine ⟨fun pins s σ H R I z => ?_⟩
  refine Call_ (ld_blt I hg hm boot_enumerate (PyProof.Rows.callWith_type1 (thn (ha.run pos pins s σ H _ I z) fun us t ⟨vs, H1, J, r1, q1⟩ => ?_) hs rfl))
  obtain ⟨a, xs, rfl, q1⟩ := q1
  obtain ⟨u, rfl, ru⟩ := vals1 r1
  obtain rfl : u = Value.ref a := ru
  have two : ∀ b : Addr, b ∈ [t.heap.objs.size + 1, t.heap.objs.size] → FpOk X pins H1 b := fun b hb => by
    have hle : t.heap.objs.size ≤ b := by
      rcases (show b = t.heap.objs.size + 1 ∨ b = t.heap.objs.size by simpa using hb) with z | z
      · rw [z]; exact Nat.le_succ _
      · rw [z]; exact Nat.le_refl _
    exact J.fpOk hle (J.hok.fresh hle)
  rcases q1 with ⟨hq, q⟩ | ⟨hq, q⟩
  · obtain ⟨its, rv, p', hz⟩ := J.list hq
    refine call_enumerate_list p'.isList fun h' he hit hsz hk => wpAny_pyIter_enum he ?_
    exact ⟨t.heap.objs.size + 1, [t.heap.objs.size + 1, t.heap.objs.size], _, _, H1, rfl, J.kept (t' := t.toks) hk, turn_enum a (t.heap.objs.size + 1) t.heap.objs.size, ⟨⟨.none, he⟩, hit, Nat.succ_ne_self _⟩, two, q⟩
  · obtain ⟨its, rv, p', hz⟩ := J.tuple hq
    have pT : t.heap.IsTuple a its.toArray := p'
    have la : a < t.heap.objs.size := p'.lt
    refine enum_call (begins_tuple a its.toArray) pT fun h' he ho hk => wpAny_pyIter_enum he ?_
    exact ⟨t.heap.objs.size + 1, [t.heap.objs.size + 1, t.heap.objs.size], _, _, H1, rfl, J.kept (t' := t.toks) hk, turn_enT a (t.heap.objs.size + 1) t.heap.objs.size, ⟨⟨.none, he⟩, ⟨_, ho, rfl, rfl⟩, Nat.succ_ne_self _, Nat.ne_of_lt la, Ne.symm (Nat.ne_of_lt (Nat.lt_succ_of_lt la))⟩, two, q⟩
/-- a list or a tuple, walked -/
def iSeq (K : PySem.W.Frag) (tl : TE) : TI := fun σ H R => tl σ H fun x H1 => (∃ w, x = .str w ∧ R (Its w) H1) ∨ ∃ a xs, x = .ref a ∧ ((SqL K H1 a xs ∧ R (Itl K a) H1) ∨ (SqT K H1 a xs ∧ R (Itt K a) H1))
theorem pi_seq {X : Cx} {tg e : PySem.Expr} {tl : TE} (he : PE X e tl) : PI X tg e (iSeq X.K tl) := by
  refine ⟨fun pins s σ H R I z => ?_⟩
  refine thn (he.run pins s σ H _ I z) fun v t ⟨x, H1, J, r1, q1⟩ => ?_
  rcases q1 with ⟨y, rfl, q⟩ | ⟨a, xs, rfl, q1⟩
  · obtain ⟨k, rfl⟩ := r1
    cases ha : y.cps.all (· < 128)
    · exact wpAny_pyIter_wide ha (pi_one (tk := t.toks) J _ (turn_str _ y k "str_iterator" (.inr rfl)) ⟨_, Heap.get?_push_size _ rfl, rfl, rfl⟩ q)
    · exact wpAny_pyIter_ascii ha (pi_one (tk := t.toks) J _ (turn_str _ y k "str_ascii_iterator" (.inl rfl)) ⟨_, Heap.get?_push_size _ rfl, rfl, rfl⟩ q)
  obtain rfl : v = Value.ref a := r1
  have fr : ∀ b : Addr, b ∈ [t.heap.objs.size] → FpOk X pins H1 b := fun b hb => by
    obtain rfl : b = t.heap.objs.size := by simpa using hb
    exact J.fpOk (Nat.le_refl _) (J.hok.fresh (Nat.le_refl _))
  rcases q1 with ⟨hq, q⟩ | ⟨hq, q⟩
  · obtain ⟨its, rv, p, hz⟩ := J.list hq
    refine wpAny_pyIter_list p.isList ?_
    exact ⟨t.heap.objs.size, [t.heap.objs.size], _, _, H1, rfl, J.kept (t' := t.toks) fun b o e => Heap.get?_push_of_some _ e, turn_list a _, ⟨_, Heap.get?_push_size _ rfl, rfl, rfl⟩, fr, q⟩
  · obtain ⟨its, rv, p, hz⟩ := J.tuple hq
    refine wpAny_pyIter_tuple (show t.heap.IsTuple a its.toArray from p) ?_
    exact ⟨t.heap.objs.size, [t.heap.objs.size], _, _, H1, rfl, J.kept (t' := t.toks) fun b o e => Heap.get?_push_of_some _ e, turn_tuple a _, ⟨_, Heap.get?_push_size _ rfl, rfl, rfl⟩, fr, q⟩
end Sy

/-! a class of refusals with its own __init__, which calls that of its base -/
namespace Sy
open PySem PySem.Spec PyProof.Rows L2
/-- what the kept text says of the base that is named -/
structure BaseC (K : PySem.W.Frag) (B : Addr) : Prop where
  sp : PySem.W.specialIn K (.ref B) "__getattribute__" = some (some (.builtin "type.__getattribute__"))
  rd : PySem.W.readsIn K B (.type "type") = true
  ini : PySem.W.findCls K (.ref B) (.type "type") "__init__" = some (.val (.builtin "ValueError.__init__"))
section
variable {X : Cx} {o e : Expr} {es : List Expr} {to te : TE} {ta : TA} {f : PySem.Str} {p p' p1 p2 pos : Pos}
end
/-- C's own __init__(self, x): the field keeps x -/
def spInit (K : PySem.W.Frag) (C : Addr) (fld : PySem.Str) (ok : V → Prop) : Sp := fun vs H Q _ => ∃ (a : Addr) (x : V), vs = [.ref a, x] ∧ ok x ∧ OexC K C ∧ PySem.W.findIn K (.ref C) fld = some none ∧ H a = some (exo a C none) ∧
  ∀ d, H d = none → d ≠ a → Q .non (upd (upd H d (exd d [(fld, x)])) a (exo a C (some d)))
def okRow : V → Prop := fun x => ∃ i : Int, x = .int i ∧ 0 ≤ i ∧ i ≤ 5000
def okWord : V → Prop := fun x => ∃ w : PySem.Str, x = .str w ∧ w.length ≤ 1000
def okV (c : PySem.Str) : V → Prop := if c = "NoName" then okWord else okRow
section
variable {P : Program} {w : World} {K : PySem.W.Frag} {mg : PySem.Str → Option Value} {base : Heap}
end
end Sy

namespace Sy
open PySem PySem.Spec PyProof.Rows L2

/-! ### what is walked, by its items -/
def ItOk (K : PySem.W.Frag) (F : Hp) (J : It) (l : List SV) : Prop := ∀ F' M S H, Same F F' → Sim K F' M S H → (∀ i, i < l.length → J.go i H) ∧ J.stop l.length H ∧
  ∀ i x, l[i]? = some x → ∀ v H', J.yld i H v H' → ∃ F2, Same F' F2 ∧ Sim K F2 M S H' ∧ RepV K F2 x v
def LI (K : PySem.W.Frag) (t : Ro → Sto → (List SV → Sto → Prop) → Prop) : TI := fun σ H R => ∃ F M S ρ k, RepR K F ρ σ ∧ Sim K F M S H ∧ t ρ S k ∧ ∀ F' S' H' l J, Same F F' → Sim K F' M S' H' → ItOk K F' J l → k l S' → R J H'
theorem PI.imp {X : Cx} {tg e : PySem.Expr} {t t' : TI} (h : PI X tg e t) (q : ∀ σ H R, t' σ H R → t σ H R) : PI X tg e t' := ⟨fun pins s σ H R I z => h.run pins s σ H R I (q σ H R z)⟩
section
variable {K : PySem.W.Frag} {F F' M H : Hp} {S : Sto}
theorem ItOk.list {a : Addr} {vs : List V} {l : List SV} (h : Rd F a (.lst vs)) (r : RepL K F l vs) : ItOk K F (Itl K a) l := fun F' M S H e q => by
  have hq : SqL K H a vs := .inl (Same.rd (e.trans q.f) h)
  have hl := r.length
  refine ⟨fun i hi => ⟨vs, vs[i]'(by omega), hq, by simp [show i < vs.length by omega]⟩, ⟨vs, hq, by omega⟩, fun i x hx v H' y => ?_⟩
  obtain ⟨rfl, y⟩ := y
  obtain ⟨w, w1, w2⟩ := RepL.get r hx
  have e2 := y vs hq
  rw [w1] at e2
  cases e2
  exact ⟨F', Same.rfl', q, RepV.mono e _ _ w2⟩
theorem ItOk.tup {a : Addr} {vs : List V} {l : List SV} (h : SqT K F a vs) (r : RepL K F l vs) : ItOk K F (Itt K a) l := fun F' M S H e q => by
  have hq : SqT K H a vs := Same.sqT (e.trans q.f) h
  have hl := r.length
  refine ⟨fun i hi => ⟨vs, vs[i]'(by omega), hq, by simp [show i < vs.length by omega]⟩, ⟨vs, hq, by omega⟩, fun i x hx v H' y => ?_⟩
  obtain ⟨rfl, y⟩ := y
  obtain ⟨w, w1, w2⟩ := RepL.get r hx
  have e2 := y vs hq
  rw [w1] at e2
  cases e2
  exact ⟨F', Same.rfl', q, RepV.mono e _ _ w2⟩
theorem rngL_get {lo : Int} {n i : Nat} {x : SV} (h : (rngL lo n)[i]? = some x) : i < n ∧ x = .int (lo + (i : Int)) := by
  unfold rngL at h
  rw [List.getElem?_map] at h
  obtain ⟨j, h1, h2⟩ := Option.map_eq_some_iff.mp h
  obtain ⟨hi, e⟩ := List.getElem?_eq_some_iff.mp h1
  rw [List.length_range] at hi
  rw [List.getElem_range] at e
  exact ⟨hi, by rw [← h2, ← e]⟩
theorem rngL_len {lo : Int} {n : Nat} : (rngL lo n).length = n := by
  unfold rngL
  rw [List.length_map, List.length_range]
theorem ItOk.str {w : PySem.Str} : ItOk K F (Its w) (w.cps.toList.map fun c => SV.str ⟨#[c]⟩) := fun F' M S H e q => by
  refine ⟨fun i hi => ?_, ?_, fun i x hx v H' y => ?_⟩
  · rw [List.length_map, Array.length_toList] at hi
    exact hi
  · show w.cps.size ≤ _
    rw [List.length_map, Array.length_toList]
    exact Nat.le_refl _
  · obtain ⟨rfl, c, hc, rfl⟩ := y
    rw [List.getElem?_map, Array.getElem?_toList, hc] at hx
    cases hx
    exact ⟨F', Same.rfl', q, rfl⟩
theorem ItOk.rng {lo : Int} {n : Nat} : ItOk K F (Itr lo n) (rngL lo n) := fun F' M S H e q => by
  refine ⟨fun i hi => by rw [rngL_len] at hi; exact hi, by rw [rngL_len]; exact Nat.le_refl _, fun i x hx v H' y => ?_⟩
  obtain ⟨rfl, rfl⟩ := y
  obtain ⟨_, rfl⟩ := rngL_get hx
  exact ⟨F', Same.rfl', q, rfl⟩
theorem enumL_len : ∀ (l : List SV) (i : Nat), (enumL l i).length = l.length
  | [], _ => rfl
  | x :: l, i => by
    show (enumL l (i + 1)).length + 1 = l.length + 1
    rw [enumL_len l (i + 1)]
theorem enumL_get : ∀ {l : List SV} {j i : Nat} {x : SV}, (enumL l j)[i]? = some x → ∃ y, l[i]? = some y ∧ x = .tup [.int ((j + i : Nat) : Int), y]
  | [], _, _, _, h => by simp [enumL] at h
  | y :: l, j, 0, x, h => by
    have e : SV.tup [.int (j : Int), y] = x := by simpa [enumL] using h
    exact ⟨y, rfl, e.symm⟩
  | y :: l, j, i + 1, x, h => by
    obtain ⟨z, h1, h2⟩ := enumL_get (l := l) (j := j + 1) (i := i) (by simpa [enumL] using h)
    exact ⟨z, by simpa using h1, by rw [h2, show j + 1 + i = j + (i + 1) by omega]⟩
/-- a new pair -/
theorem pair_ok {x y : SV} {v u : V} {T : Addr} (q : Sim K F M S H) (hT : H T = none) (rv : RepV K F x v) (ru : RepV K F y u) : ∃ F2, Same F F2 ∧ Sim K F2 M S (upd H T (.tup [v, u])) ∧ RepV K F2 (.tup [x, y]) (.ref T) := by
  have s1 : Same F (upd F T (.tup [v, u])) := Same.new (q.freeF hT)
  exact ⟨_, s1, q.newF hT, T, [v, u], rfl, upd_same, v, [u], rfl, RepV.mono s1 _ _ rv, u, [], rfl, RepV.mono s1 _ _ ru, rfl⟩
theorem ItOk.enumL {a : Addr} {vs : List V} {l : List SV} (h : Rd F a (.lst vs)) (r : RepL K F l vs) : ItOk K F (Ite K a) (Sy.enumL l 0) := fun F' M S H e q => by
  have hq : SqL K H a vs := .inl (Same.rd (e.trans q.f) h)
  have hl := r.length
  have hn := enumL_len l 0
  refine ⟨fun i hi => ⟨vs, vs[i]'(by omega), hq, by simp [show i < vs.length by omega]⟩, ⟨vs, hq, by omega⟩, fun i x hx v H' y => ?_⟩
  obtain ⟨T, z, rfl, hT, rfl, hz⟩ := y
  obtain ⟨y, y1, rfl⟩ := enumL_get hx
  obtain ⟨w, w1, w2⟩ := RepL.get r y1
  have e2 := hz vs hq
  rw [w1] at e2
  cases e2
  rw [Nat.zero_add]
  exact pair_ok q hT (show RepV K F' (.int (i : Int)) (.int (i : Int)) from rfl) (RepV.mono e _ _ w2)
theorem ItOk.enumT {a : Addr} {vs : List V} {l : List SV} (h : SqT K F a vs) (r : RepL K F l vs) : ItOk K F (ItT K a) (Sy.enumL l 0) := fun F' M S H e q => by
  have hq : SqT K H a vs := Same.sqT (e.trans q.f) h
  have hl := r.length
  have hn := enumL_len l 0
  refine ⟨fun i hi => ⟨vs, vs[i]'(by omega), hq, by simp [show i < vs.length by omega]⟩, ⟨vs, hq, by omega⟩, fun i x hx v H' y => ?_⟩
  obtain ⟨T, z, rfl, hT, rfl, hz⟩ := y
  obtain ⟨y, y1, rfl⟩ := enumL_get hx
  obtain ⟨w, w1, w2⟩ := RepL.get r y1
  have e2 := hz vs hq
  rw [w1] at e2
  cases e2
  rw [Nat.zero_add]
  exact pair_ok q hT (show RepV K F' (.int (i : Int)) (.int (i : Int)) from rfl) (RepV.mono e _ _ w2)
theorem zipL_len : ∀ (l m : List SV), (zipL l m).length = min l.length m.length
  | [], _ => by simp [zipL]
  | _ :: _, [] => by simp [zipL]
  | x :: l, y :: m => by
    have h := zipL_len l m
    simp [zipL, h] <;> omega
theorem zipL_get : ∀ {l m : List SV} {i : Nat} {x : SV}, (zipL l m)[i]? = some x → ∃ y z, l[i]? = some y ∧ m[i]? = some z ∧ x = .tup [y, z]
  | [], _, _, _, h => by simp [zipL] at h
  | _ :: _, [], _, _, h => by simp [zipL] at h
  | y :: l, z :: m, 0, x, h => ⟨y, z, rfl, rfl, (show SV.tup [y, z] = x by simpa [zipL] using h).symm⟩
  | y :: l, z :: m, i + 1, x, h => by
    obtain ⟨a, b, h1, h2, h3⟩ := zipL_get (l := l) (m := m) (i := i) (by simpa [zipL] using h)
    exact ⟨a, b, by simpa using h1, by simpa using h2, h3⟩
theorem ItOk.zipL {a b : Addr} {vs ws : List V} {l m : List SV} (h : Rd F a (.lst vs)) (r : RepL K F l vs) (h' : Rd F b (.lst ws)) (r' : RepL K F m ws) : ItOk K F (Itz K a b) (Sy.zipL l m) := fun F' M S H e q => by
  have hq : SqL K H a vs := .inl (Same.rd (e.trans q.f) h)
  have hq' : SqL K H b ws := .inl (Same.rd (e.trans q.f) h')
  have hl := r.length
  have hl' := r'.length
  have hn := zipL_len l m
  refine ⟨fun i hi => ⟨vs, ws, vs[i]'(by omega), ws[i]'(by omega), hq, hq', by simp [show i < vs.length by omega], by simp [show i < ws.length by omega]⟩, ⟨vs, ws, hq, hq', by omega⟩, fun i x hx v H' y => ?_⟩
  obtain ⟨T, z1, z2, rfl, hT, rfl, hz1, hz2⟩ := y
  obtain ⟨y1, y2, e1, e2, rfl⟩ := zipL_get hx
  obtain ⟨w1, a1, b1⟩ := RepL.get r e1
  obtain ⟨w2, a2, b2⟩ := RepL.get r' e2
  have f1 := hz1 vs hq
  have f2 := hz2 ws hq'
  rw [a1] at f1
  rw [a2] at f2
  cases f1
  cases f2
  exact pair_ok q hT (RepV.mono e _ _ b1) (RepV.mono e _ _ b2)
theorem ItOk.zipT {a b : Addr} {vs ws : List V} {l m : List SV} (h : SqT K F a vs) (r : RepL K F l vs) (h' : SqT K F b ws) (r' : RepL K F m ws) : ItOk K F (RZ.ItzT K a b) (Sy.zipL l m) := fun F' M S H e q => by
  have hq : SqT K H a vs := Same.sqT (e.trans q.f) h
  have hq' : SqT K H b ws := Same.sqT (e.trans q.f) h'
  have hl := r.length
  have hl' := r'.length
  have hn := zipL_len l m
  refine ⟨fun i hi => ⟨vs, ws, vs[i]'(by omega), ws[i]'(by omega), hq, hq', by simp [show i < vs.length by omega], by simp [show i < ws.length by omega]⟩, ⟨vs, ws, hq, hq', by omega⟩, fun i x hx v H' y => ?_⟩
  obtain ⟨T, z1, z2, rfl, hT, rfl, hz1, hz2⟩ := y
  obtain ⟨y1, y2, e1, e2, rfl⟩ := zipL_get hx
  obtain ⟨w1, a1, b1⟩ := RepL.get r e1
  obtain ⟨w2, a2, b2⟩ := RepL.get r' e2
  have f1 := hz1 vs hq
  have f2 := hz2 ws hq'
  rw [a1] at f1
  rw [a2] at f2
  cases f1
  cases f2
  exact pair_ok q hT (RepV.mono e _ _ b1) (RepV.mono e _ _ b2)
end

/-! ### the looked-at trees keep what they say -/
structure Good (C : Cal) (g : PySem.Str → Option SV) (k : Nat) (N : Ck) (sc rs : Scope) (X : Cx) : Prop where
  calm : X.calm = true
  nN : X.N = N.N
  nd : N.N.Nodup
  sc : X.env.scope = sc
  st : ∀ x, (rs.names.lookup x = some .local ∨ rs.names.lookup x = some .cell) → L2.Loc X.env.scope x ∧ (X.fn x = true ∨ X.env.scope.names.lookup x = some .local)
  room : Room k X.A
  sup : ("super" : PySem.Str) ∉ N.T
  bi : ∀ f : Bi, X.mg (biN f) = none
  ty : ∀ t : Ty, X.mg (tyN t) = none
  rng : X.mg "range" = none
  enu : X.mg "enumerate" = none
  zip : X.mg "zip" = none
  set : X.mg "set" = none
  fn : ∀ f ∈ N.T, ∃ a fd ps, X.mg f = some (.ref a) ∧ FnOk X.prog X.w X.K X.mg X.base CX0 k a fd ps (LSp X.K (C f)) ∧ PySem.W.keepIn X.K (.ref a) = true ∧ Binds X.K fd ps []
  mt : ∀ f c m, (f, c, m) ∈ N.M → ∃ Ca a fd ps, InsK X.K c Ca ∧ Meth X.K Ca m a ∧ FnOk X.prog X.w X.K X.mg X.base CX0 k a fd ps (LSp X.K (C f)) ∧ Binds X.K fd ps [] ∧ Room (k + 1) X.A ∧ (m = "__init__" → X.mg c = some (.ref Ca) ∧ Mk X.K Ca a)
  gl : ∀ x v, g x = some v → ∃ w u, X.mg x = some u ∧ RelV w u ∧ RepV X.K (fun _ => none) v w
  ve : X.mg "ValueError" = none
  exc : ∀ c ∈ N.E, c ∈ exB ∧ ∃ B, X.mg c = some (.ref B) ∧ PySem.W.nsIn X.K mainGlobals c = some (some (.ref B)) ∧ ClsK X.K c B
  fv : ∀ f ∈ N.T, ∃ a, X.mg f = some (.ref a) ∧ PySem.W.nsIn X.K mainGlobals f = some (some (.ref a))
  ex1 : ∀ c fld, c ∈ N.E → (c, fld) ∈ ex1 → ∀ B, X.mg c = some (.ref B) → OexC X.K B ∧ PySem.W.findIn X.K (.ref B) fld = some none ∧ ∃ fI fd, PySem.W.findIn X.K (.ref B) "__init__" = some (some (.ref fI)) ∧ PySem.W.typeIn X.K (.ref fI) = some (.type "function") ∧
    FnOk X.prog X.w X.K X.mg X.base CX0 1 fI fd ["self", fld] (spInit X.K B fld (okV c)) ∧ Binds X.K fd ["self", fld] []
  ex0 : ∀ c ∈ N.E, c ∈ ex0 → ∀ B, X.mg c = some (.ref B) → PySem.W.excIn X.K B [.type "ValueError", .type "Exception", .type "BaseException", .type "object"] "ValueError.__new__" = true ∧ PySem.W.keepIn X.K (.ref B) = true
  lv : (∃ f vs S Q, C f vs S Q) → 2 ≤ k
  lam : ∀ (x : SV) (S : Sto), C "<is lambda>" [x] S (fun _ _ => True) → ∃ (a c : Addr) (cs : List SV) (ws : List V) (fd : FuncData) (ps : List PySem.Str), x = .lam a c cs ws ∧ PySem.W.FnAt a X.base ∧
    FnOk X.prog X.w X.K X.mg X.base CX0 k a fd ps (fun vs H Q E => LSp X.K (C "<lambda>") (.ref a :: vs) H Q E) ∧ Binds X.K fd ps []
theorem Good.blk {C : Cal} {g : PySem.Str → Option SV} {k : Nat} {N : Ck} {sc rs : Scope} {X : Cx} (G : Good C g k N sc rs X) (scope : Scope) (s : Shared) (H : Hp) (Cc : Addr) (cl : List (PySem.Str × Addr)) (fp : List Addr) (hk : scope.kind = .function) :
    Good C g k N (relS scope sc) scope (X.blk s H scope (compEnvC scope cl Cc X.env) fp) where
  calm := G.calm
  nN := G.nN
  nd := G.nd
  sc := by
    show relS scope X.env.scope = _
    rw [G.sc]
  st := fun x hx => by
    have e : (X.blk s H scope (compEnvC scope cl Cc X.env) fp).env.scope = relS scope X.env.scope := rfl
    rw [e]
    rcases hx with hx | hx
    · have q : (relS scope X.env.scope).names.lookup x = some .local := lookup_relS_keep (by decide) hx
      exact ⟨.inl q, .inr q⟩
    · have q : (relS scope X.env.scope).names.lookup x = some .cell := lookup_relS_keep (by decide) hx
      refine ⟨.inr q, .inl ?_⟩
      show (scope.names.lookup x == some .cell) = true
      rw [hx]
      rfl
  room := G.room
  sup := G.sup
  bi := G.bi
  ty := G.ty
  rng := G.rng
  enu := G.enu
  zip := G.zip
  set := G.set
  fn := G.fn
  mt := G.mt
  gl := G.gl
  ve := G.ve
  exc := G.exc
  ex0 := G.ex0
  fv := G.fv
  ex1 := G.ex1
  lv := G.lv
  lam := G.lam
section
variable {C : Cal} {g : PySem.Str → Option SV} {k : Nat} {N : Ck} {sc rs : Scope} {X : Cx}
theorem Good.gl_ (G : Good C g k N sc rs X) {x : PySem.Str} (h : glE sc x = true) : Gl X x ∧ (x == ("__debug__" : PySem.Str)) = false ∧ x ≠ "__name__" := by
  unfold glE at h
  simp only [Bool.and_eq_true] at h
  obtain ⟨⟨h1, h2⟩, h3⟩ := h
  refine ⟨?_, ?_, ?_⟩
  · show X.env.scope.names.lookup x = some .globalImplicit
    rw [G.sc]
    split at h1
    · assumption
    · cases h1
  · simpa using h2
  · simpa using h3
theorem Good.var (G : Good C g k N sc rs X) {i : Nat} {x : PySem.Str} {pos : Pos} (h : nmE N.N sc i x = true) : PE X (.Name x pos) (tVar i) := by
  unfold nmE at h
  simp only [Bool.and_eq_true, decide_eq_true_eq] at h
  obtain ⟨⟨⟨h1, h2⟩, h3⟩, h4⟩ := h
  refine pe_var (by rw [G.nN]; exact h1) ?_ (by simpa using h2) (by simpa using h3)
  show Vis X.env.scope x
  rw [G.sc]
  unfold Vis
  split at h4
  · exact .inl (by assumption)
  · exact .inr (.inl (by assumption))
  · exact .inr (.inr (by assumption))
  · cases h4
theorem PE.no {e : PySem.Expr} {t : TE} (h : ∀ σ H Q, ¬ t σ H Q) : PE X e t := ⟨fun _ _ σ H Q _ z => (h σ H Q z).elim⟩
theorem se_var (G : Good C g k N sc rs X) {i : Nat} {x : PySem.Str} {pos : Pos} (h : nmE N.N sc i x = true) : PE X (.Name x pos) (LE X.K (wE C g (.var i x))) := PE.imp (G.var h) fun σ H Q z => by
  obtain ⟨F, M, S, ρ, k, r, q, ⟨v, e, o⟩, kk⟩ := z
  obtain ⟨w, e1, e2⟩ := r.2 i v e
  exact ⟨w, e1, kk.go q e2 o⟩
theorem se_cst {c : Const} {j : Nat} {pos : Pos} : PE X (.Constant c j pos) (LE X.K (wE C g (.cst c))) := by
  have no : cstS c = none → PE X (.Constant c j pos) (LE X.K (wE C g (.cst c))) := fun e => PE.no fun σ H Q z => by
    obtain ⟨F, M, S, ρ, k, r, q, ⟨v, e1, o⟩, kk⟩ := z
    rw [e] at e1
    cases e1
  have yes : ∀ (v : SV) (w : V), cstS c = some v → (∀ F, RepV X.K F v w) → PE X (.Constant c j pos) (tC w) → PE X (.Constant c j pos) (LE X.K (wE C g (.cst c))) := fun v w e r p => PE.imp p fun σ H Q z => by
    obtain ⟨F, M, S, ρ, k, r', q, ⟨v', e1, o⟩, kk⟩ := z
    rw [e] at e1
    cases e1
    exact kk.go q (r F) o
  cases c with
  | none => exact yes .non .non rfl (fun _ => rfl) pe_non
  | bool b => exact yes (.bl b) (.bl b) rfl (fun _ => rfl) pe_bl
  | int i => exact yes (.int i) (.int i) rfl (fun _ => rfl) pe_int
  | str s => exact yes (.str s) (.str s) rfl (fun _ => rfl) pe_str
  | _ => exact no rfl
theorem se_glob (G : Good C g k N sc rs X) {x : PySem.Str} {pos : Pos} (h : glE sc x = true) : PE X (.Name x pos) (LE X.K (wE C g (.glob x))) := by
  obtain ⟨hg, hd, hn⟩ := G.gl_ h
  cases e : g x with
  | none =>
    refine PE.no fun σ H Q z => ?_
    obtain ⟨F, M, S, ρ, k, r, q, ⟨v, e1, o⟩, kk⟩ := z
    rw [e] at e1
    cases e1
  | some v =>
    obtain ⟨w, u, hm, r1, r2⟩ := G.gl x v e
    refine PE.imp (pe_glob hg hm r1 hd) fun σ H Q z => ?_
    obtain ⟨F, M, S, ρ, k, r, q, ⟨v', e1, o⟩, kk⟩ := z
    rw [e] at e1
    cases e1
    exact kk.go q (RepV.mono (fun a o z => by cases z) _ _ r2) o
/-- what follows an expression -/
theorem LE.bind {K : PySem.W.Frag} {t : SE} {F M H : Hp} {S : Sto} {ρ : Ro} {σ : L2.St} {kq : SK} {Q : VK} (r : RepR K F ρ σ) (q : Sim K F M S H) (h : t ρ S kq)
    (n : ∀ F' S' H' x v, Same F F' → Sim K F' M S' H' → RepV K F' x v → RepR K F' ρ σ → kq x S' → Q v H') : LE K t σ H Q :=
  ⟨F, M, S, ρ, kq, r, q, h, fun F' S' H' x v e q' rx z => n F' S' H' x v e q' rx (r.mono e) z⟩
theorem se_bin {o : Operator} {own : Bool} {a b : ME} {l r : PySem.Expr} {pos : Pos} (ha : PE X l (LE X.K (wE C g a))) (hb : PE X r (LE X.K (wE C g b))) : PE X (.BinOp l o r pos) (LE X.K (wE C g (.bin o own a b))) := PE.imp (pe_op (op_binS (own := own)) ha hb) fun σ H Q z => by
  obtain ⟨F, M, S, ρ, k, r, q, h, kk⟩ := z
  exact LE.bind r q h fun F1 S1 H1 x v e1 q1 rx r1 h1 => LE.bind r1 q1 h1 fun F2 S2 H2 y u e2 q2 ry r2 h2 => ⟨F2, M, S2, x, y, k, RepV.mono e2 _ _ rx, ry, q2, h2, kk.mono (e1.trans e2)⟩
theorem le_cmp {K : PySem.W.Frag} {o : CmpOp} {a b : ME} {σ : L2.St} {H : Hp} {Q : VK} (z : LE K (wE C g (.cmp o a b)) σ H Q) : tOp (LR2 K (cmpS o)) (LE K (wE C g a)) (LE K (wE C g b)) σ H Q := by
  obtain ⟨F, M, S, ρ, k, r, q, h, kk⟩ := z
  exact LE.bind r q h fun F1 S1 H1 x v e1 q1 rx r1 h1 => LE.bind r1 q1 h1 fun F2 S2 H2 y u e2 q2 ry r2 h2 => ⟨F2, M, S2, x, y, k, RepV.mono e2 _ _ rx, ry, q2, h2, kk.mono (e1.trans e2)⟩
theorem se_cmp (G : Good C g k N sc rs X) {o : CmpOp} {a b : ME} {l r : PySem.Expr} {pos : Pos} (ha : PE X l (LE X.K (wE C g a))) (hb : PE X r (LE X.K (wE C g b))) (hp : plE r = true) : PE X (.Compare l [o] [r] pos) (LE X.K (wE C g (.cmp o a b))) :=
  PE.imp (pe_cmpR (op_cmpS G.room o) ha hb (pl_mark hp o)) fun _ _ _ z => le_cmp z
theorem se_neg {a : ME} {e : PySem.Expr} {pos : Pos} (ha : PE X e (LE X.K (wE C g a))) : PE X (.UnaryOp .USub e pos) (LE X.K (wE C g (.neg a))) := PE.imp (pe_un un_neg ha) fun σ H Q z => by
  obtain ⟨F, M, S, ρ, k, r, q, h, kk⟩ := z
  refine LE.bind r q h fun F1 S1 H1 x v e1 q1 rx r1 h1 => ?_
  obtain ⟨i, rfl, h1⟩ := h1
  exact ⟨i, rx, (kk.mono e1).go q1 (show RepV X.K F1 (.int (-i)) (.int (-i)) from rfl) h1⟩
theorem se_not {a : ME} {e : PySem.Expr} {pos : Pos} (ha : PE X e (LE X.K (wE C g a))) : PE X (.UnaryOp .Not e pos) (LE X.K (wE C g (.not a))) := PE.imp (pe_not ha) fun σ H Q z => by
  obtain ⟨F, M, S, ρ, k, r, q, h, kk⟩ := z
  refine LE.bind r q h fun F1 S1 H1 x v e1 q1 rx r1 h1 => ?_
  obtain ⟨p, rfl, h1⟩ := h1
  exact ⟨p, rx, (kk.mono e1).go q1 (show RepV X.K F1 (.bl (!p)) (.bl (!p)) from rfl) h1⟩
theorem se_and {a b : ME} {e e2 : PySem.Expr} {rest : List PySem.Expr} {pos : Pos} (ha : PE X e (LE X.K (wE C g a))) (hb : PE X (.BoolOp .And (e2 :: rest) pos) (LE X.K (wE C g b))) : PE X (.BoolOp .And (e :: e2 :: rest) pos) (LE X.K (wE C g (.and a b))) := PE.imp (pe_and ha hb) fun σ H Q z => by
  obtain ⟨F, M, S, ρ, k, r, q, h, kk⟩ := z
  refine LE.bind r q h fun F1 S1 H1 x v e1 q1 rx r1 h1 => ?_
  obtain ⟨p, rfl, h1⟩ := h1
  refine ⟨p, rx, ?_⟩
  cases p with
  | true =>
    rw [if_pos rfl] at h1 ⊢
    exact ⟨F1, M, S1, ρ, k, r1, q1, h1, kk.mono e1⟩
  | false =>
    rw [if_neg Bool.false_ne_true] at h1 ⊢
    exact (kk.mono e1).go q1 (show RepV X.K F1 (.bl false) (.bl false) from rfl) h1
theorem se_or {a b : ME} {e e2 : PySem.Expr} {rest : List PySem.Expr} {pos : Pos} (ha : PE X e (LE X.K (wE C g a))) (hb : PE X (.BoolOp .Or (e2 :: rest) pos) (LE X.K (wE C g b))) : PE X (.BoolOp .Or (e :: e2 :: rest) pos) (LE X.K (wE C g (.or a b))) := PE.imp (pe_or ha hb) fun σ H Q z => by
  obtain ⟨F, M, S, ρ, k, r, q, h, kk⟩ := z
  refine LE.bind r q h fun F1 S1 H1 x v e1 q1 rx r1 h1 => ?_
  obtain ⟨p, rfl, h1⟩ := h1
  refine ⟨p, rx, ?_⟩
  cases p with
  | true =>
    rw [if_pos rfl] at h1 ⊢
    exact (kk.mono e1).go q1 (show RepV X.K F1 (.bl true) (.bl true) from rfl) h1
  | false =>
    rw [if_neg Bool.false_ne_true] at h1 ⊢
    exact ⟨F1, M, S1, ρ, k, r1, q1, h1, kk.mono e1⟩
end
end Sy

/-! a tuple from behind: t[::-1] -/
namespace Sy
open PySem PySem.Spec PyProof.Rows L2 HT
section
variable {prog : Program} {w : World} {A : Around} {E : Value → Shared → Prop} {s : Shared}
theorem places_rev (n : Nat) : Builtin.Slice.slicePlaces ((n : Int) - 1) (-1) (-1) = n := by
  unfold Builtin.Slice.slicePlaces
  rw [if_neg (by decide)]
  by_cases h : (n : Int) - 1 > -1
  · rw [if_pos h]
    have e : ((n : Int) - 1 - -1 - 1) / - -1 + 1 = (n : Int) := by
      rw [Int.neg_neg, Int.ediv_one]
      omega
    rw [e]
    rfl
  · rw [if_neg h]
    show (0 : Nat) = n
    omega
theorem sliceApplied_rev {sl : Addr} {n : Nat} {u : Tok} {Q : Int × Int × Nat → Shared → Prop} (hs : s.heap.IsSliceOf sl .none .none (.int (-1) u))
    (h : Q ((n : Int) - 1, -1, n) s) : wpAny (model prog w) A (Builtin.Slice.sliceApplied (.ref sl) (pure (n : Int))) Q E s := by
  obtain ⟨os, hos, hcs, hds⟩ := id hs
  unfold Builtin.Slice.sliceApplied Builtin.Slice.sliceFields
  refine wpAny_bind (wpAny_bind (wpAny_field hos hds (x := .none) rfl (wpAny_bind (wpAny_field hos hds (x := .none) rfl (wpAny_bind (wpAny_field hos hds (x := .int (-1) u) rfl (wpAny_pure ?_)))))))
  refine wpAny_bind (slicePart_int ?_)
  show wpAny _ _ (if ((-1 : Int) == 0) = true then _ else _) _ _ s
  rw [if_neg (by decide)]
  refine wpAny_bind (slicePart_none (wpAny_bind (slicePart_none (wpAny_bind (wpAny_pure ?_)))))
  show wpAny _ _ (pure ((n : Int) - 1, (-1 : Int), Builtin.Slice.slicePlaces ((n : Int) - 1) (-1) (-1))) _ _ s
  rw [places_rev]
  exact wpAny_pure h
theorem pick_rev (xs : Array Value) : ((List.range xs.size).filterMap fun (m : Nat) => xs[((xs.size : Int) - 1 + (m : Int) * -1).toNat]?).toArray = xs.toList.reverse.toArray := by
  congr 1
  refine List.ext_getElem? fun i => ?_
  have e : (List.range xs.size).filterMap (fun (m : Nat) => xs[((xs.size : Int) - 1 + (m : Int) * -1).toNat]?) = (List.range xs.size).map fun m => xs.toList.getD (xs.size - 1 - m) .none := by
    have g : ∀ l : List Nat, (∀ m ∈ l, m < xs.size) → l.filterMap (fun (m : Nat) => xs[((xs.size : Int) - 1 + (m : Int) * -1).toNat]?) = l.map fun m => xs.toList.getD (xs.size - 1 - m) .none := by
      intro l
      induction l with
      | nil => intro _; rfl
      | cons m l ih =>
        intro hl
        have hm' := hl m List.mem_cons_self
        have e1 : ((xs.size : Int) - 1 + (m : Int) * -1).toNat = xs.size - 1 - m := by omega
        have h2 : xs.size - 1 - m < xs.size := by omega
        rw [List.filterMap_cons, e1, Array.getElem?_eq_getElem h2, List.map_cons, ih fun m hm => hl m (List.mem_cons_of_mem _ hm)]
        simp [List.getD_eq_getElem?_getD, h2]
    exact g _ fun m hm => List.mem_range.mp hm
  rw [e, List.getElem?_map]
  by_cases hi : i < xs.size
  · rw [List.getElem?_range hi, List.getElem?_reverse (by rw [Array.length_toList]; exact hi), Array.length_toList]
    have h2 : xs.size - 1 - i < xs.toList.length := by rw [Array.length_toList]; omega
    have h3 : xs.size - 1 - i < xs.size := by omega
    simp [List.getD_eq_getElem?_getD, h3]
  · rw [List.getElem?_eq_none (by rw [List.length_range]; omega), List.getElem?_eq_none (by rw [List.length_reverse, Array.length_toList]; omega)]
    rfl
theorem getItem_tuple_rev {t sl : Addr} {items : Array Value} {u : Tok} {Q : Value → Shared → Prop} (ht : IsTup s.heap t items) (hs : s.heap.IsSliceOf sl .none .none (.int (-1) u))
    (h : Q (.ref s.heap.objs.size) { s with heap := s.heap.push { cls := .type "tuple", data := .seq items.toList.reverse.toArray } })
    (hsz : items.size ≤ sizeLine) : wpAny (model prog w) A (getItem (.ref t) (.ref sl)) Q E s := by
  have htake : sizeOk (.seq items.toList.reverse.toArray) := by
    show items.toList.reverse.toArray.size ≤ sizeLine
    rw [List.size_toArray, List.length_reverse, Array.length_toList]
    exact hsz
  obtain ⟨os, hos, hcs, hds⟩ := id hs
  have hTs : s.TypeIs (.ref sl) "slice" := ⟨os, hos, hcs⟩
  unfold getItem
  try with_reducible refine wpAny_holding ?_
  first | refine wpAny_bind (wpAny_pure ?_) | skip
  refine wpAny_bind (wpAny_sequenceKey ht.typeIs (by decide) ?_)
  refine wpAny_bind (wpAny_callSpecial?_slot (name := Str.ofString "__getitem__") ht.typeIs PyProof.Rows.slot_tuple_getitem
    (wpAny_call_entry PyProof.Rows.slot_tuple_getitem ht.typeIs entry_tuple_getitem ?_ (args_tuple_getitem _ _)))
  show wpAny _ _ (Builtin.Tuple.tupleItemsOf (.ref t) >>= _) _ _ s
  refine wpAny_bind (tupleItemsOf_ ht ?_)
  refine wpAny_bind (wpAny_typeOf hTs ?_)
  rw [if_pos (by decide)]
  refine wpAny_bind (sliceApplied_rev hs ?_)
  have hno : ¬ (((items.size : Int) - 1 == 0 && (-1 : Int) == 1 && items.size == items.size) = true) := by
    intro q
    rw [Bool.and_eq_true, Bool.and_eq_true] at q
    exact absurd q.1.2 (by decide)
  show wpAny _ _ (if ((items.size : Int) - 1 == 0 && (-1 : Int) == 1 && items.size == items.size) = true then _ else _) _ _ s
  rw [if_neg hno, pick_rev]
  first
    | exact wpAny_bind (m := Builtin.Tuple.tupleExact _) (wpAny_newObj_type (wpAny_pure ⟨_, rfl, wpAny_pure h⟩) htake)
    | exact wpAny_bind (m := Builtin.Tuple.tupleExact _) (wpAny_newObj_type (wpAny_bind (wpAny_pure (wpAny_pure ⟨_, rfl, wpAny_pure h⟩))) htake)
    | exact wpAny_bind (wpAny_bind (m := Builtin.Tuple.tupleExact _) (wpAny_newObj_type (wpAny_pure (wpAny_pure ⟨_, rfl, wpAny_pure h⟩)) htake))
    | exact wpAny_bind (wpAny_bind (m := Builtin.Tuple.tupleExact _) (wpAny_newObj_type (wpAny_pure ⟨_, rfl, wpAny_pure h⟩) htake))
end
section
variable {X : Cx}
/-- x[::-1], of a list or a tuple -/
def tRevA (K : PySem.W.Frag) (te : TE) : TE := fun σ H Q => te σ H fun x H1 => (∃ a xs, x = .ref a ∧ SqL K H1 a xs ∧ ∀ p, H1 p = none → Q (.ref p) (upd H1 p (.lst xs.reverse))) ∨ (∃ a xs, x = .ref a ∧ SqT K H1 a xs ∧ ∀ p, H1 p = none → Q (.ref p) (upd H1 p (.tup xs.reverse)))
theorem pe_revA {e : PySem.Expr} {te : TE} {k : Nat} {p1 p2 p3 pos : Pos} (he : PE X e te) : PE X (.Subscript e (.Slice none none (some (.UnaryOp .USub (.Constant (.int 1) k p1) p2)) p3) pos) (tRevA X.K te) := by
  refine ⟨fun pins s σ H Q I h => ?_⟩
  refine Subscript_ (thn (he.run pins s σ H _ I h) fun v s1 ⟨x, H1, I1, r1, q1⟩ => ?_)
  have hst : PO X (some (.UnaryOp .USub (.Constant (.int 1) k p1) p2)) (tPart (tUn (rU fun i => .int (-i)) (tC (.int 1)))) := po_some (pe_un un_neg pe_int)
  refine wpAny_Slice (thn (po_none.run pins s1 σ H1 (fun o H2 => o = none ∧ H2 = H1) I1 ⟨rfl, rfl⟩) fun vl s2 ⟨l, H2, I2, pl, el, e2⟩ => ?_)
  subst el e2
  refine thn (po_none.run pins s2 σ H2 (fun o H3 => o = none ∧ H3 = H2) I2 ⟨rfl, rfl⟩) fun vu s3 ⟨u, H3, I3, pu, eu, e3⟩ => ?_
  subst eu e3
  refine thn (hst.run pins s3 σ H3 (fun o H4 => o = some (-1) ∧ H4 = H3) I3 ⟨1, rfl, -1, rfl, rfl, rfl⟩) fun vs s4 ⟨o, H4, I4, ps, eo, e4⟩ => ?_
  subst eo e4
  have I5 : Inv X pins σ H4 { s4 with heap := s4.heap.push { cls := .type "slice", data := .fields #[vl, vu, vs] } } := I4.kept (t' := s4.toks) fun b ob q => Heap.get?_push_of_some _ q
  rcases q1 with ⟨a, xs, ex, hx, q⟩ | ⟨a, xs, ex, hx, q⟩
  · subst ex
    cases r1
    obtain ⟨its, r, ht, hz⟩ := I5.list hx
    have hlen := r.length
    show wpAny (model X.prog X.w) X.A (subscriptTail e (.Slice none none (some (.UnaryOp .USub (.Constant (.int 1) k p1) p2)) p3) (.ref a) (.ref s4.heap.objs.size)) (EP X pins σ Q) X.xe { s4 with heap := s4.heap.push { cls := .type "slice", data := .fields #[vl, vu, vs] } }
    refine tail_any (ops := [.ref a, .ref s4.heap.objs.size]) ht.isList.typeIs (PySem.slot_list_getitem.lookup) ?_ (by with_unfolding_all rfl)
    refine wpAny_getItem_list_slice ht.isList (Heap.IsSliceOf.new _ vl vu vs) pl pu ps (by decide) ?_ (by rw [List.size_toArray]; omega)
    rw [PySem.W.krv_pick]
    refine ⟨.ref _, _, I5.laid (t' := s4.toks) (o := .lst xs.reverse) (fun b ob q => Heap.get?_push_of_some _ q) (Nat.le_refl _) ?_, rfl, q _ (I5.hok.fresh (Nat.le_refl _))⟩
    exact ⟨by rw [List.length_reverse]; exact hz, _, 0, r.reverse, Heap.get?_push_size _ rfl⟩
  · subst ex
    cases r1
    cases pl
    cases pu
    cases ps
    obtain ⟨its, r, ht, hz⟩ := I5.tuple hx
    have hlen := r.length
    show wpAny (model X.prog X.w) X.A (subscriptTail e (.Slice none none (some (.UnaryOp .USub (.Constant (.int 1) k p1) p2)) p3) (.ref a) (.ref s4.heap.objs.size)) (EP X pins σ Q) X.xe _
    refine tail_any (ops := [.ref a, .ref s4.heap.objs.size]) ht.typeIs (PyProof.Rows.slot_tuple_getitem.lookup) ?_ (by with_unfolding_all rfl)
    refine getItem_tuple_rev ht (Heap.IsSliceOf.new _ _ _ _) ?_ (by rw [List.size_toArray]; omega)
    refine ⟨.ref _, _, I5.laid (t' := s4.toks) (o := .tup xs.reverse) (fun b ob q => Heap.get?_push_of_some _ q) (Nat.le_refl _) ?_, rfl, q _ (I5.hok.fresh (Nat.le_refl _))⟩
    exact ⟨by rw [List.length_reverse]; exact hz, _, r.reverse, IsTup.new _ _⟩
end
end Sy

namespace Sy
open PySem PySem.Spec PyProof.Rows L2
section
variable {C : Cal} {g : PySem.Str → Option SV} {k : Nat} {N : Ck} {sc rs : Scope} {X : Cx}
theorem LA.bind {K : PySem.W.Frag} {t : SEs} {F M H : Hp} {S : Sto} {ρ : Ro} {σ : L2.St} {kq : SKs} {Q : List V → Hp → Prop} (r : RepR K F ρ σ) (q : Sim K F M S H) (h : t ρ S kq)
    (n : ∀ F' S' H' x v, Same F F' → Sim K F' M S' H' → RepL K F' x v → RepR K F' ρ σ → kq x S' → Q v H') : LA K t σ H Q :=
  ⟨F, M, S, ρ, kq, r, q, h, fun F' S' H' x v e q' rx z => n F' S' H' x v e q' rx (r.mono e) z⟩
theorem sa_nil : PA X [] (LA X.K (wA C g .nil)) := PA.imp pa_nil fun σ H Q z => by
  obtain ⟨F, M, S, ρ, k, r, q, h, kk⟩ := z
  exact kk F S H [] [] Same.rfl' q rfl h
theorem sa_cons {m : ME} {as : MA} {e : PySem.Expr} {es : List PySem.Expr} (he : PE X e (LE X.K (wE C g m))) (hs : PA X es (LA X.K (wA C g as))) (hp : plE e = true) : PA X (e :: es) (LA X.K (wA C g (.cons m as))) := PA.imp (pa_cons he hs (pl_star hp es X.env)) fun σ H Q z => by
  obtain ⟨F, M, S, ρ, k, r, q, h, kk⟩ := z
  exact LE.bind r q h fun F1 S1 H1 x v e1 q1 rx r1 h1 => LA.bind r1 q1 h1 fun F2 S2 H2 y u e2 q2 ry r2 h2 => kk F2 S2 H2 (x :: y) (v :: u) (e1.trans e2) q2 (show RepL X.K F2 (x :: y) (v :: u) from ⟨v, u, rfl, RepV.mono e2 _ _ rx, ry⟩) h2
theorem se_tup {as : MA} {es : List PySem.Expr} {n : Nat} {pos : Pos} (ha : PA X es (LA X.K (wA C g as))) : PE X (.Tuple es n pos) (LE X.K (wE C g (.tup as))) := PE.imp (pe_tup ha) fun σ H Q z => by
  obtain ⟨F, M, S, ρ, k, r, q, h, kk⟩ := z
  exact LA.bind r q h fun F1 S1 H1 x v e1 q1 rx r1 h1 => ⟨by rw [← rx.length]; exact h1.1, fun p hp => newT_ok q1 rx h1.2 (kk.mono e1) hp⟩
theorem se_lst {own : Bool} {as : MA} {es : List PySem.Expr} {pos : Pos} (ha : PA X es (LA X.K (wA C g as))) : PE X (.List es pos) (LE X.K (wE C g (.lst own as))) := PE.imp (pe_lst ha) fun σ H Q z => by
  obtain ⟨F, M, S, ρ, k, r, q, h, kk⟩ := z
  exact LA.bind r q h fun F1 S1 H1 x v e1 q1 rx r1 h1 => ⟨by rw [← rx.length]; exact h1.1, fun p hp => newL_ok q1 rx h1 (kk.mono e1) hp⟩
theorem se_idx (G : Good C g k N sc rs X) {a i : ME} {x y : PySem.Expr} {pos : Pos} (ha : PE X x (LE X.K (wE C g a))) (hi : PE X y (LE X.K (wE C g i))) (hp : plE y = true) : PE X (.Subscript x y pos) (LE X.K (wE C g (.idx a i))) := PE.imp (pe_ix (ix_S (by have := G.room.units; omega)) ha hi (pl_ix hp)) fun σ H Q z => by
  obtain ⟨F, M, S, ρ, k, r, q, h, kk⟩ := z
  exact LE.bind r q h fun F1 S1 H1 x v e1 q1 rx r1 h1 => LE.bind r1 q1 h1 fun F2 S2 H2 y u e2 q2 ry r2 h2 => ⟨F2, M, S2, x, y, k, RepV.mono e2 _ _ rx, ry, q2, h2, kk.mono (e1.trans e2)⟩
theorem so_none : PO X none (LO X.K (wO C g .none)) := PO.imp po_none fun σ H Q z => by
  obtain ⟨F, M, S, ρ, k, r, q, h, kk⟩ := z
  exact kk F S H none Same.rfl' q h
theorem so_some {m : ME} {e : PySem.Expr} (he : PE X e (LE X.K (wE C g m))) : PO X (some e) (LO X.K (wO C g (.some m))) := PO.imp (po_some he) fun σ H Q z => by
  obtain ⟨F, M, S, ρ, k, r, q, h, kk⟩ := z
  refine LE.bind r q h fun F1 S1 H1 x v e1 q1 rx r1 h1 => ?_
  obtain ⟨i, rfl, h1⟩ := h1
  exact ⟨i, rx, kk F1 S1 H1 _ e1 q1 h1⟩
theorem se_sl {own : Bool} {a : ME} {lo hi : MO} {x : PySem.Expr} {l h : Option PySem.Expr} {pos p2 : Pos} (ha : PE X x (LE X.K (wE C g a))) (hl : PO X l (LO X.K (wO C g lo))) (hh : PO X h (LO X.K (wO C g hi))) :
    PE X (.Subscript x (.Slice l h none p2) pos) (LE X.K (wE C g (.sl own a lo hi))) := PE.imp (pe_slice (sl_S (own := own)) ha hl hh) fun σ H Q z => by
  obtain ⟨F, M, S, ρ, k, r, q, h, kk⟩ := z
  exact LE.bind r q h fun F1 S1 H1 x v e1 q1 rx r1 h1 => ⟨F1, M, S1, ρ, _, r1, q1, h1, fun F2 S2 H2 o e2 q2 h2 => ⟨F2, M, S2, ρ, _, r1.mono e2, q2, h2, fun F3 S3 H3 o3 e3 q3 h3 => ⟨F3, M, S3, x, k, RepV.mono (e2.trans e3) _ _ rx, q3, h3, kk.mono ((e1.trans e2).trans e3)⟩⟩⟩
theorem se_rev {own : Bool} {a : ME} {x : PySem.Expr} {j : Nat} {pos p1 p2 p3 : Pos} (ha : PE X x (LE X.K (wE C g a))) : PE X (.Subscript x (.Slice none none (some (.UnaryOp .USub (.Constant (.int 1) j p1) p2)) p3) pos) (LE X.K (wE C g (.rev own a))) := PE.imp (pe_revA ha) fun σ H Q z => by
  obtain ⟨F, M, S, ρ, k, r, q, h, kk⟩ := z
  refine LE.bind r q h fun F1 S1 H1 x v e1 q1 rx r1 h1 => ?_
  have h2 : revS own x S1 k := h1
  unfold revS at h2
  cases ht : tupOf x with
  | none =>
    rw [ht] at h2
    obtain ⟨l, o1, o2⟩ := h2
    obtain ⟨b, vs, rfl, h2, r2⟩ := items_l q1 rx o1
    exact .inl ⟨b, vs, rfl, h2, fun p hp => newL_ok q1 (RepL.reverse r2) o2 (kk.mono e1) hp⟩
  | some l =>
    rw [ht] at h2
    obtain ⟨b, vs, rfl, h3, r2⟩ := tupOf_t q1 rx ht
    exact .inr ⟨b, vs, rfl, h3, fun p hp => newT_ok q1 (RepL.reverse r2) h2 (kk.mono e1) hp⟩
theorem LE.args {K : PySem.W.Frag} {as : MA} {f : List SV → Sto → SK → Prop} {σ : L2.St} {H : Hp} {Q : VK} (z : LE K (fun ρ S k => wA C g as ρ S fun vs S' => f vs S' k) σ H Q) : LA K (wA C g as) σ H fun vs H' => LRs K f vs H' Q := by
  obtain ⟨F, M, S, ρ, k, r, q, h, kk⟩ := z
  exact LA.bind r q h fun F1 S1 H1 x v e1 q1 rx r1 h1 => ⟨F1, M, S1, x, k, rx, q1, h1, kk.mono e1⟩
theorem star_none {N : Ck} {sc : Scope} (hT : ("super" : PySem.Str) ∉ N.T) {env : Env} {pos : Pos} : ∀ {as : MA} {es : List PySem.Expr}, cA N sc as es = true → (backTo pos (starEach es env)).any (fun x => x.1) = false
  | .nil, [], _ => rfl
  | .cons m as, e :: es, h => by
    have h' : (cE N sc m e && cA N sc as es) = true := h
    rw [Bool.and_eq_true] at h'
    rw [pl_star (pl_of h'.1 hT) es env]
    show (backTo pos (starEach es env)).any (fun x => x.1) = false
    exact star_none hT h'.2
  | .nil, _ :: _, h => by cases h
  | .cons _ _, [], h => by cases h
theorem se_call (G : Good C g k N sc rs X) {f : PySem.Str} {as : MA} {es : List PySem.Expr} {p pos : Pos} (hf : f ∈ N.T) (hg : glE sc f = true) (ha : PA X es (LA X.K (wA C g as))) (hc : cA N sc as es = true) :
    PE X (.Call (.Name f p) es [] pos) (LE X.K (wE C g (.call f as))) := by
  obtain ⟨h1, h2, h3⟩ := G.gl_ hg
  obtain ⟨a, fd, ps, hm, hF, hk, hb⟩ := G.fn f hf
  cases es with
  | nil =>
    refine PE.imp (pe_call0 hF G.room h1 hm hk hb .nil pass0 h2) fun σ H Q z => ?_
    cases as with
    | cons _ _ => cases hc
    | nil =>
      obtain ⟨F, M, S, ρ, k, r, q, h, kk⟩ := z
      exact ⟨F, M, S, [], k, rfl, q, h, kk⟩
  | cons e es =>
    cases as with
    | nil => cases hc
    | cons m as =>
      have hc' : (cE N sc m e && cA N sc as es) = true := hc
      rw [Bool.and_eq_true] at hc'
      refine PE.imp (pe_call hF G.room h1 hm hk hb .nil pass0 ha h2 (pl_star (pl_of hc'.1 G.sup) es X.env) (star_none G.sup hc'.2)) fun σ H Q z => ?_
      have z' := LE.args z
      show LA X.K _ σ H fun vs H1 => LSp X.K (C f) (vs ++ []) H1 Q E0
      refine (show ∀ (A B : List V → Hp → Prop), (∀ v h, A v h → B v h) → LA X.K (wA C g (.cons m as)) σ H A → LA X.K (wA C g (.cons m as)) σ H B from fun A B n z => ?_) _ _ (fun v h z => ?_) z'
      · obtain ⟨F, M, S, ρ, k, r, q, h, kk⟩ := z
        exact ⟨F, M, S, ρ, k, r, q, h, fun F' S' H' x v e q' rx z => n _ _ (kk F' S' H' x v e q' rx z)⟩
      · rw [List.append_nil]
        exact z
theorem le_callv {K : PySem.W.Frag} {i : Nat} {z : PySem.Str} {as : MA} {σ : L2.St} {H : Hp} {Q : VK} {E : XK} (h : LE K (wE C g (.callv i z as)) σ H Q) : ∃ (a : Addr) (c : Addr) (cs : List SV) (ws : List V) (S : Sto), σ[i]? = some (some (.ref a)) ∧ C "<is lambda>" [.lam a c cs ws] S (fun _ _ => True) ∧
    LA K (wA C g as) σ H fun vs H1 => LSp K (C "<lambda>") (.ref a :: vs) H1 Q E := by
  obtain ⟨F, M, S, ρ, kq, r, q, ⟨a, c, cs, ws, h1, h2, h3⟩, kk⟩ := h
  obtain ⟨v, hv, rv⟩ := r.2 i _ h1
  have hv' : v = .ref a := rv.1
  subst hv'
  exact ⟨a, c, cs, ws, S, hv, h2, F, M, S, ρ, _, r, q, h3, fun F' S' H' xs vs e q' rx z => ⟨F', M, S', .lam a c cs ws :: xs, kq, ⟨.ref a, vs, rfl, RepV.mono e _ _ rv, rx⟩, q', z, kk.mono e⟩⟩
theorem se_callv (G : Good C g k N sc rs X) {i : Nat} {z : PySem.Str} {as : MA} {es : List PySem.Expr} {p pos : Pos} (hz : nmE N.N sc i z = true) (hn : es.isEmpty = false) (ha : PA X es (LA X.K (wA C g as))) (hc : cA N sc as es = true) :
    PE X (.Call (.Name z p) es [] pos) (LE X.K (wE C g (.callv i z as))) := by
  refine ⟨fun pins s σ H Q I h => ?_⟩
  obtain ⟨a, c, cs, ws, S, hs, hl, ht⟩ := le_callv (E := E0) h
  obtain ⟨a', c', cs', ws', fd, ps, e, hf, hF, hb⟩ := G.lam _ _ hl
  cases e
  cases es with
  | nil => cases hn
  | cons e es =>
    cases as with
    | nil => cases hc
    | cons m as =>
      have hc' : (cE N sc m e && cA N sc as es) = true := hc
      rw [Bool.and_eq_true] at hc'
      have fnat : ∀ {pins σ H s}, Inv X pins σ H s → PySem.W.FnAt a s.heap := fun I => by
        obtain ⟨oc, od, fd, sl, ho⟩ := hf
        exact ⟨oc, od, fd, sl, I.bk _ _ ho⟩
      refine wpAny_Call_Name_kw (thn ((G.var (pos := p) hz).run pins s σ H (fun v H1 => v = .ref a ∧ H1 = H) I ⟨.ref a, hs, rfl, rfl⟩) fun u s1 ⟨v, H1, I1, r1, q1⟩ => ?_)
      obtain ⟨rfl, rfl⟩ := q1
      cases r1
      refine PySem.W.callWith_F (first := []) (fnat I1) (thn (ha.run pos pins s1 σ _ _ I1 ht) fun us s2 ⟨vs, H2, I2, r, q⟩ => ⟨fnat I2, ?_⟩) (pl_star (pl_of hc'.1 G.sup) es X.env) (star_none G.sup hc'.2)
      refine run_fn (dvs := []) (ds := []) hF G.room hb .nil pass0 I2 r ?_
      rw [List.append_nil]
      exact q
theorem se_bi (G : Good C g k N sc rs X) {f : Bi} {own : Bool} {as : MA} {es : List PySem.Expr} {p pos : Pos} (hg : glE sc (biN f) = true) (ha : PA X es (LA X.K (wA C g as))) (hc : cA N sc as es = true) :
    PE X (.Call (.Name (biN f) p) es [] pos) (LE X.K (wE C g (.bi f own as))) := by
  obtain ⟨h1, h2, h3⟩ := G.gl_ hg
  cases es with
  | nil =>
    cases as with
    | cons _ _ => cases hc
    | nil =>
      refine PE.no fun σ H Q z => ?_
      obtain ⟨F, M, S, ρ, k, r, q, h, kk⟩ := z
      have h' : biS f own [] S k := h
      cases f <;> exact h'
  | cons e es =>
    cases as with
    | nil => cases hc
    | cons m as =>
      have hc' : (cE N sc m e && cA N sc as es) = true := hc
      rw [Bool.and_eq_true] at hc'
      have st := pl_star (pl_of hc'.1 G.sup) es X.env
      have sn := star_none (pos := pos) (env := X.env) G.sup hc'.2
      have cr := cr_bi G.calm G.room.units f own
      have hb := bi_boot f
      refine PE.imp (t := tCB (LRs X.K (biS f own)) (LA X.K (wA C g (.cons m as)))) ?_ fun σ H Q z => LE.args z
      cases f <;> first
        | exact pe_callB cr h1 (G.bi _) hb ha h3 h2 st sn
        | exact pe_callTy cr h1 (G.bi _) hb ha h3 h2 st sn

/-! isinstance of a kept exception, its fields -/
section
variable {X : Cx}
end
/-! isinstance against a built-in class -/
theorem RepF.lookup {K : PySem.W.Frag} {F : Hp} {f : PySem.Str} : ∀ {l : List (PySem.Str × SV)} {gs : List (PySem.Str × V)} {x : SV}, RepF K F l gs → l.lookup f = some x → ∃ v, gs.lookup f = some v ∧ RepV K F x v
  | [], _, _, _, h => by cases h
  | p :: l, _, x, ⟨v, r, h1, h2, h3⟩, h => by
    subst h1
    rw [List.lookup_cons] at h ⊢
    cases e : f == p.1 with
    | true =>
      rw [e] at h
      cases h
      exact ⟨v, rfl, h2⟩
    | false =>
      rw [e] at h
      exact RepF.lookup h3 h
/-! methods -/
def mtT : Mt → String
  | .join => "str"
  | .split => "str"
  | .indexT => "tuple"
  | .indexS => "str"
  | _ => "list"
theorem rcv_ty {K : PySem.W.Frag} {F M H : Hp} {S : Sto} (q : Sim K F M S H) {m : Mt} {x : SV} {v : V} (r : RepV K F x v) (h : rcvS m S x) (hm : m ≠ .indexT) : tyV K (mtT m) v H := by
  have lst : (∃ l, items S x = some l) → tyV K "list" v H := fun ⟨l, e⟩ => by
    obtain ⟨a, vs, rfl, h2, _⟩ := items_l q r e
    exact .inl ⟨rfl, vs, h2⟩
  have str : (∃ s, x = .str s) → tyV K "str" v H := fun ⟨s, e⟩ => by
    subst e
    rw [show v = .str s from r]
    rfl
  cases m <;> first | exact lst h | exact str h | exact absurd rfl hm
theorem args_ok {N : Ck} {sc : Scope} (hT : ("super" : PySem.Str) ∉ N.T) {env : Env} {pos : Pos} : ∀ {as : MA} {es : List PySem.Expr}, cA N sc as es = true → (backTo pos (starEach es env)).all (fun x => !x.1) = true
  | .nil, [], _ => rfl
  | .cons m as, e :: es, h => by
    have h' : (cE N sc m e && cA N sc as es) = true := h
    rw [Bool.and_eq_true] at h'
    rw [pl_star (pl_of h'.1 hT) es env]
    show (backTo pos (starEach es env)).all (fun x => !x.1) = true
    exact args_ok hT h'.2
  | .nil, _ :: _, h => by cases h
  | .cons _ _, [], h => by cases h
/-- a method of a known tuple -/
theorem tuf_is {pins : List (Addr × Obj)} {σ : L2.St} {H : Hp} {s : Shared} {p : Addr} {vs : List V} (I : Inv X pins σ H s) (h : TufAt X.K H p vs) : s.TypeIs (.ref p) "tuple" ∧ ∀ a, Value.ref p = .ref a → ∃ ob, s.heap.get? a = some ob ∧ ob.dict = none := by
  rcases h with ⟨o, h, d⟩ | ⟨o, its, n, h1, h2, d, _⟩
  · obtain ⟨e, _, its, _, o2, e2, c, _⟩ := I.hok _ _ h
    rw [e] at e2
    cases e2
    exact ⟨⟨o, e, c⟩, fun a z => by cases z; exact ⟨o, e, d⟩⟩
  · have e := I.kIn _ _ h1
    exact ⟨⟨o, e, h2⟩, fun a z => by cases z; exact ⟨o, e, d⟩⟩
def tBMU (K : PySem.W.Frag) (r : V → List V → Hp → VK → Prop) (to : TE) (t : TA) : TE := fun σ H Q => to σ H fun x H1 => (∃ p vs, x = .ref p ∧ TufAt K H1 p vs) ∧ t σ H1 fun vs H2 => r x vs H2 Q
theorem pe_bmU {o e : PySem.Expr} {es : List PySem.Expr} {to : TE} {t : TA} {r : V → List V → Hp → VK → Prop} {name : PySem.Str} {id : String} {apos cpos : Pos} (pa : PlainAttrs "tuple") (slot : Slot "tuple" name id) (hty : typeOf (.builtin id) = pure (.type "method_descriptor")) (hm : MtR X id r) (ho : PE X o to) (ha : PA X (e :: es) t)
    (hbase : attributeBase o name X.env (eval o X.env) = eval o X.env)
    (hfew : ((backTo cpos (starEach (e :: es) X.env)).all (fun x => !x.1) && (backToKw cpos (keywordEach [] X.env)).all (fun x => x.1.isSome)
      && decide ((e :: es).length + ([] : List Keyword).length + (if ([] : List Keyword).isEmpty then 0 else 1) < 30)) = true)
    (hline : (apos.endLine == cpos.line) = true) (hs : starEach (e :: es) X.env = (false, eval e X.env) :: starEach es X.env) (hplain : (backTo cpos (starEach es X.env)).any (·.1) = false) :
    PE X (.Call (.Attribute o name apos) (e :: es) [] cpos) (tBMU X.K r to t) := by
  refine ⟨fun pins s σ H Q I h => ?_⟩
  refine wpAny_Call_method_late hbase hfew hline rfl (thn (ho.run pins s σ H _ I h) fun v s1 ⟨x, H1, I1, r1, ⟨p, ys, ex, ty⟩, q1⟩ => ?_)
  subst ex
  obtain rfl : v = Value.ref p := r1
  obtain ⟨h1, h2⟩ := tuf_is I1 ty
  refine ⟨"tuple", id, pa, slot, hty, h1, h2, ?_⟩
  have hA := ha.run cpos pins s1 σ H1 _ I1 q1
  rw [hs] at hA ⊢
  refine Calls.callWith_builtin (by show (false || (backTo cpos (starEach es X.env)).any (·.1)) = false; rw [hplain] <;> rfl) (Calls.evalArgs_plain ?_)
  exact thn hA fun us s2 ⟨vs, H2, I2, r2, q2⟩ => hm pins s2 σ H2 (.ref p) vs (.ref p) us Q I2 rfl r2 q2
theorem mt_endU {own : Bool} {a : ME} {as : MA} {o e : PySem.Expr} {es : List PySem.Expr} {apos pos : Pos}
    (hl : (apos.endLine == pos.line) = true) (hn : (e :: es).length < 30) (sup : ("super" : PySem.Str) ∉ N.T) (ho : PE X o (LE X.K (wE C g a))) (hpo : plE o = true) (ha : PA X (e :: es) (LA X.K (wA C g as))) (hc : cA N sc as (e :: es) = true) :
    PE X (.Call (.Attribute o "index" apos) (e :: es) [] pos) (LE X.K (wE C g (.mt .indexT own a as))) := by
  cases as with
  | nil => cases hc
  | cons b as =>
    have hc' : (cE N sc b e && cA N sc as es) = true := hc
    rw [Bool.and_eq_true] at hc'
    refine PE.imp (pe_bmU PySem.F.plainAttrs_tuple PySem.F.slot_tuple_index PySem.F.type_tuple_index mt_indexTS ho ha (pl_attr hpo _ _ _) ?_ hl (pl_star (pl_of hc'.1 sup) es X.env) (star_none sup hc'.2)) fun σ H Q z => ?_
    · rw [args_ok sup hc]
      have h2 : (backToKw pos (keywordEach [] X.env)).all (fun x => x.1.isSome) = true := rfl
      rw [h2]
      have h3 : (e :: es).length + ([] : List Keyword).length + (if ([] : List Keyword).isEmpty = true then 0 else 1) < 30 := hn
      rw [decide_eq_true h3]
      rfl
    · obtain ⟨F, M, S, ρ, k, r, q, h, kk⟩ := z
      refine LE.bind r q h fun F1 S1 H1 x v e1 q1 rx r1 h1 => ?_
      obtain ⟨⟨l, rfl⟩, h1⟩ := h1
      obtain ⟨p, vs, rfl, t1, t2⟩ := id rx
      exact ⟨⟨p, vs, rfl, TufAt.mono q1.f t1⟩, LA.bind r1 q1 h1 fun F2 S2 H2 y u e2 q2 ry r2 h2 => ⟨F2, M, S2, .tuf l, y, k, RepV.mono e2 _ _ rx, ry, q2, h2, kk.mono (e1.trans e2)⟩⟩
theorem mt_end {m : Mt} {own : Bool} {a : ME} {as : MA} {id : String} {o e : PySem.Expr} {es : List PySem.Expr} {apos pos : Pos} (hid : MtR X id (LRm X.K (mtS m own))) (pl : PlainAttrs (mtT m)) (sl : Slot (mtT m) (mtN m) id) (ty : typeOf (Value.builtin id) = pure (Value.type "method_descriptor"))
    (hmt : m ≠ .indexT) (hl : (apos.endLine == pos.line) = true) (hn : (e :: es).length < 30) (sup : ("super" : PySem.Str) ∉ N.T) (ho : PE X o (LE X.K (wE C g a))) (hpo : plE o = true) (ha : PA X (e :: es) (LA X.K (wA C g as))) (hc : cA N sc as (e :: es) = true) :
    PE X (.Call (.Attribute o (mtN m) apos) (e :: es) [] pos) (LE X.K (wE C g (.mt m own a as))) := by
  cases as with
  | nil => cases hc
  | cons b as =>
    have hc' : (cE N sc b e && cA N sc as es) = true := hc
    rw [Bool.and_eq_true] at hc'
    refine PE.imp (pe_bm pl sl ty hid ho ha (pl_attr hpo _ _ _) ?_ hl (pl_star (pl_of hc'.1 sup) es X.env) (star_none sup hc'.2)) fun σ H Q z => ?_
    · rw [args_ok sup hc]
      have h2 : (backToKw pos (keywordEach [] X.env)).all (fun x => x.1.isSome) = true := rfl
      rw [h2]
      have h3 : (e :: es).length + ([] : List Keyword).length + (if ([] : List Keyword).isEmpty = true then 0 else 1) < 30 := hn
      rw [decide_eq_true h3]
      rfl
    · obtain ⟨F, M, S, ρ, k, r, q, h, kk⟩ := z
      exact LE.bind r q h fun F1 S1 H1 x v e1 q1 rx r1 h1 => ⟨rcv_ty q1 rx h1.1 hmt, LA.bind r1 q1 h1.2 fun F2 S2 H2 y u e2 q2 ry r2 h2 => ⟨F2, M, S2, x, y, k, RepV.mono e2 _ _ rx, ry, q2, h2, kk.mono (e1.trans e2)⟩⟩
theorem se_mt (G : Good C g k N sc rs X) {m : Mt} {own : Bool} {a : ME} {as : MA} {o : PySem.Expr} {es : List PySem.Expr} {apos pos : Pos} (hm : mtIn m = true) (hl : (apos.endLine == pos.line) = true) (hn : es.length = mtA m)
    (ho : PE X o (LE X.K (wE C g a))) (hpo : plE o = true) (ha : PA X es (LA X.K (wA C g as))) (hc : cA N sc as es = true) :
    PE X (.Call (.Attribute o (mtN m) apos) es [] pos) (LE X.K (wE C g (.mt m own a as))) := by
  cases es with
  | nil =>
    cases as with
    | cons _ _ => cases hc
    | nil =>
      have zero : ∀ {id : String}, MtR X id (LRm X.K (mtS m own)) → PlainAttrs (mtT m) → Slot (mtT m) (mtN m) id → typeOf (Value.builtin id) = pure (Value.type "method_descriptor") → m ≠ .indexT → PE X (.Call (.Attribute o (mtN m) apos) [] [] pos) (LE X.K (wE C g (.mt m own a .nil))) := fun {id} h1 h2 h3 h4 h5 =>
        PE.imp (pe_bm0 h2 h3 h4 h1 ho (pl_attr hpo _ _ _) hl) fun σ H Q z => by
          obtain ⟨F, M, S, ρ, k, r, q, h, kk⟩ := z
          exact LE.bind r q h fun F1 S1 H1 x v e1 q1 rx r1 h1 => ⟨rcv_ty q1 rx h1.1 h5, F1, M, S1, x, [], k, rx, rfl, q1, h1.2, kk.mono e1⟩
      cases m <;> first
        | (cases hm; done)
        | exact zero mt_pop0S PySem.F.plainAttrs_list PySem.F.slot_list_pop PySem.F.type_list_pop (by decide)
        | exact zero mt_clearS PySem.F.plainAttrs_list PySem.F.slot_list_clear PySem.F.type_list_clear (by decide)
        | cases hn
  | cons e es =>
    have hn' : (e :: es).length < 30 := by
      rw [hn]
      cases m <;> decide
    cases m <;> first
      | (cases hm; done)
      | (cases hn; done)
      | exact mt_end mt_insertS PySem.F.plainAttrs_list PySem.F.slot_list_insert PySem.F.type_list_insert (by decide) hl hn' G.sup ho hpo ha hc
      | exact mt_end mt_appendS PySem.F.plainAttrs_list PySem.F.slot_list_append PySem.F.type_list_append (by decide) hl hn' G.sup ho hpo ha hc
      | exact mt_end mt_extendS PySem.F.plainAttrs_list PySem.F.slot_list_extend PySem.F.type_list_extend (by decide) hl hn' G.sup ho hpo ha hc
      | exact mt_end mt_joinS PySem.F.plainAttrs_str PySem.F.slot_str_join PySem.F.type_str_join (by decide) hl hn' G.sup ho hpo ha hc
      | exact mt_end mt_splitS PySem.F.plainAttrs_str PySem.F.slot_str_split PySem.F.type_str_split (by decide) hl hn' G.sup ho hpo ha hc
      | exact mt_end mt_popS PySem.F.plainAttrs_list PySem.F.slot_list_pop PySem.F.type_list_pop (by decide) hl hn' G.sup ho hpo ha hc
      | exact mt_end (mt_countS (by have := G.room.un; omega)) PySem.F.plainAttrs_list PySem.F.slot_list_count PySem.F.type_list_count (by decide) hl hn' G.sup ho hpo ha hc
      | exact mt_end (mt_indexLS (by have := G.room.un; omega)) PySem.F.plainAttrs_list PySem.F.slot_list_index PySem.F.type_list_index (by decide) hl hn' G.sup ho hpo ha hc
      | exact mt_end (mt_removeS (by have := G.room.un; omega)) PySem.F.plainAttrs_list PySem.F.slot_list_remove PySem.F.type_list_remove (by decide) hl hn' G.sup ho hpo ha hc
      | exact mt_end mt_sindexS PySem.F.plainAttrs_str PySem.F.slot_str_index PySem.F.type_str_index (by decide) hl hn' G.sup ho hpo ha hc
      | exact mt_endU hl hn' G.sup ho hpo ha hc
/-! {} -/
theorem se_dnew {tk : Bool} {pos : Pos} : PE X (.Dict [] [] pos) (LE X.K (wE C g (.dnew tk))) := by
  cases tk with
  | true =>
    refine PE.imp pe_dnewT fun σ H Q z p hp => ?_
    obtain ⟨F, M, S, ρ, k, r, q, h, kk⟩ := z
    have h' : k (.own p) (supd S p (.dT [] [])) := h p (q.freeS hp)
    exact kk F _ _ (.own p) _ Same.rfl' (q.newS (o := .dT [] []) hp ⟨[], rfl, rfl, rfl⟩) rfl h'
  | false =>
    refine PE.imp pe_dnewK fun σ H Q z p hp => ?_
    obtain ⟨F, M, S, ρ, k, r, q, h, kk⟩ := z
    have h' : k (.own p) (supd S p (.dK [] [])) := h p (q.freeS hp)
    exact kk F _ _ (.own p) _ Same.rfl' (q.newS (o := .dK [] []) hp ⟨[], rfl, rfl, rfl⟩) rfl h'
/-! what is walked -/
theorem LI.mk {K : PySem.W.Frag} {t : Ro → Sto → (List SV → Sto → Prop) → Prop} {σ : L2.St} {H : Hp} {R : It → Hp → Prop} (z : LI K t σ H R) : LI K t σ H R := z
theorem si_seq {m : ME} {tg e : PySem.Expr} (he : PE X e (LE X.K (wE C g m))) : PI X tg e (LI X.K fun ρ S q => wA C g (.cons m .nil) ρ S fun vs S1 => itS .seq vs S1 fun l => q l S1) := PI.imp (pi_seq he) fun σ H R z => by
  obtain ⟨F, M, S, ρ, k, r, q, h, kk⟩ := z
  refine LE.bind r q h fun F1 S1 H1 x v e1 q1 rx r1 h1 => ?_
  have h2 : itS .seq [x] S1 fun l => k l S1 := h1
  cases x <;> first | cases h2 | skip
  · exact .inl ⟨_, rx, kk F1 S1 H1 _ _ e1 q1 ItOk.str h2⟩
  · obtain ⟨a, vs, rfl, t1, t2⟩ := rx
    exact .inr ⟨a, vs, rfl, .inr ⟨.inl (.inl (q1.f _ _ t1)), kk F1 S1 H1 _ _ e1 q1 (ItOk.tup (.inl (.inl t1)) t2) h2⟩⟩
  · obtain ⟨a, vs, rfl, t1, t2⟩ := rx
    exact .inr ⟨a, vs, rfl, .inl ⟨.inl (Same.rd q1.f t1), kk F1 S1 H1 _ _ e1 q1 (ItOk.list t1 t2) h2⟩⟩
  · obtain ⟨a, vs, rfl, t1, t2⟩ := rx
    exact .inr ⟨a, vs, rfl, .inr ⟨(TufAt.mono q1.f t1).sqT, kk F1 S1 H1 _ _ e1 q1 (ItOk.tup t1.sqT t2) h2⟩⟩
theorem si_rng1 (G : Good C g k N sc rs X) {as : MA} {tg e : PySem.Expr} {p pos : Pos} (hg : glE sc "range" = true) (ha : PA X [e] (LA X.K (wA C g as))) (hp : plE e = true) :
    PI X tg (.Call (.Name "range" p) [e] [] pos) (LI X.K fun ρ S q => wA C g as ρ S fun vs S1 => itS .rng1 vs S1 fun l => q l S1) := PI.imp (pi_range1 (G.gl_ hg).1 G.rng ha (pl_star hp [] X.env)) fun σ H R z => by
  obtain ⟨F, M, S, ρ, k, r, q, h, kk⟩ := z
  refine LA.bind r q h fun F1 S1 H1 x v e1 q1 rx r1 h1 => ?_
  unfold itS at h1
  split at h1 <;> first | (cases h1; done) | skip
  all_goals (rename_i e; first | (cases e; done) | skip)
  · obtain ⟨u, rfl, ru⟩ := RepL.one rx
    rw [show u = .int _ from ru]
    exact ⟨_, rfl, h1.1, h1.2.1, kk F1 S1 H1 _ _ e1 q1 ItOk.rng h1.2.2⟩
theorem si_rng2 (G : Good C g k N sc rs X) {as : MA} {tg e e2 : PySem.Expr} {p pos : Pos} (hg : glE sc "range" = true) (ha : PA X [e, e2] (LA X.K (wA C g as))) (hp : plE e = true) (hp2 : plE e2 = true) :
    PI X tg (.Call (.Name "range" p) [e, e2] [] pos) (LI X.K fun ρ S q => wA C g as ρ S fun vs S1 => itS .rng2 vs S1 fun l => q l S1) := PI.imp (pi_range2 (G.gl_ hg).1 G.rng ha ((pl_star hp _ X.env).trans (by rw [pl_star hp2 [] X.env]; rfl)) (pl_star hp2 [] X.env)) fun σ H R z => by
  obtain ⟨F, M, S, ρ, k, r, q, h, kk⟩ := z
  refine LA.bind r q h fun F1 S1 H1 x v e1 q1 rx r1 h1 => ?_
  unfold itS at h1
  split at h1 <;> first | (cases h1; done) | skip
  all_goals (rename_i e; first | (cases e; done) | skip)
  · obtain ⟨u, u2, rfl, ru, ru2⟩ := RepL.two rx
    rw [show u = .int _ from ru, show u2 = .int _ from ru2]
    exact ⟨_, _, rfl, h1.1, kk F1 S1 H1 _ _ e1 q1 ItOk.rng h1.2⟩
end
end Sy

namespace Sy
open PySem PySem.Spec PyProof.Rows L2
section
variable {C : Cal} {g : PySem.Str → Option SV} {k : Nat} {N : Ck} {sc rs : Scope} {X : Cx}
theorem tup_of {tg : PySem.Expr} (h : tupE tg = true) : ∃ es n p, tg = .Tuple es n p := by
  cases tg <;> first | (cases h; done) | exact ⟨_, _, _, rfl⟩
theorem si_enum (G : Good C g k N sc rs X) {as : MA} {tg e : PySem.Expr} {p pos : Pos} (hg : glE sc "enumerate" = true) (ha : PA X [e] (LA X.K (wA C g as))) (hp : plE e = true) (ht : tupE tg = true) :
    PI X tg (.Call (.Name "enumerate" p) [e] [] pos) (LI X.K fun ρ S q => wA C g as ρ S fun vs S1 => itS .enum vs S1 fun l => q l S1) := by
  obtain ⟨es, n, p3, rfl⟩ := tup_of ht
  refine PI.imp (pi_enA (G.gl_ hg).1 G.enu ha (pl_star hp [] X.env)) fun σ H R z => ?_
  obtain ⟨F, M, S, ρ, k, r, q, h, kk⟩ := z
  refine LA.bind r q h fun F1 S1 H1 x v e1 q1 rx r1 h1 => ?_
  unfold itS at h1
  split at h1 <;> first | (cases h1; done) | skip
  all_goals (rename_i e; first | (cases e; done) | skip)
  · obtain ⟨u, rfl, ru⟩ := RepL.one rx
    obtain ⟨a, vs, rfl, t1, t2⟩ := ru
    exact ⟨a, vs, rfl, .inl ⟨.inl (Same.rd q1.f t1), kk F1 S1 H1 _ _ e1 q1 (ItOk.enumL t1 t2) h1⟩⟩
  · obtain ⟨u, rfl, ru⟩ := RepL.one rx
    obtain ⟨a, vs, rfl, t1, t2⟩ := ru
    exact ⟨a, vs, rfl, .inr ⟨.inl (.inl (q1.f _ _ t1)), kk F1 S1 H1 _ _ e1 q1 (ItOk.enumT (.inl (.inl t1)) t2) h1⟩⟩
  · obtain ⟨u, rfl, ru⟩ := RepL.one rx
    obtain ⟨a, vs, rfl, t1, t2⟩ := ru
    exact ⟨a, vs, rfl, .inr ⟨(TufAt.mono q1.f t1).sqT, kk F1 S1 H1 _ _ e1 q1 (ItOk.enumT t1.sqT t2) h1⟩⟩
theorem si_zip (G : Good C g k N sc rs X) {as : MA} {tg e e2 : PySem.Expr} {p pos : Pos} (hg : glE sc "zip" = true) (ha : PA X [e, e2] (LA X.K (wA C g as))) (hp : plE e = true) (hp2 : plE e2 = true) (ht : tupE tg = true) :
    PI X tg (.Call (.Name "zip" p) [e, e2] [] pos) (LI X.K fun ρ S q => wA C g as ρ S fun vs S1 => itS .zip vs S1 fun l => q l S1) := by
  obtain ⟨es, n, p3, rfl⟩ := tup_of ht
  refine PI.imp (RZ.pi_zipA (G.gl_ hg).1 G.zip ha (pl_star hp _ X.env) (by rw [pl_star hp2 [] X.env]; rfl)) fun σ H R z => ?_
  obtain ⟨F, M, S, ρ, k, r, q, h, kk⟩ := z
  refine LA.bind r q h fun F1 S1 H1 x v e1 q1 rx r1 h1 => ?_
  unfold itS at h1
  split at h1 <;> first | (cases h1; done) | skip
  all_goals (rename_i e; first | (cases e; done) | skip)
  · obtain ⟨u, u2, rfl, ru, ru2⟩ := RepL.two rx
    obtain ⟨a, vs, rfl, t1, t2⟩ := ru
    obtain ⟨a2, vs2, rfl, t3, t4⟩ := ru2
    exact ⟨a, a2, vs, vs2, rfl, .inl ⟨.inl (Same.rd q1.f t1), .inl (Same.rd q1.f t3), kk F1 S1 H1 _ _ e1 q1 (ItOk.zipL t1 t2 t3 t4) h1⟩⟩
  · obtain ⟨u, u2, rfl, ru, ru2⟩ := RepL.two rx
    obtain ⟨a, vs, rfl, t1, t2⟩ := ru
    obtain ⟨a2, vs2, rfl, t3, t4⟩ := ru2
    exact ⟨a, a2, vs, vs2, rfl, .inr ⟨.inl (.inl (q1.f _ _ t1)), .inl (.inl (q1.f _ _ t3)), kk F1 S1 H1 _ _ e1 q1 (ItOk.zipT (.inl (.inl t1)) t2 (.inl (.inl t3)) t4) h1⟩⟩
  · obtain ⟨u, u2, rfl, ru, ru2⟩ := RepL.two rx
    obtain ⟨a, vs, rfl, t1, t2⟩ := ru
    obtain ⟨a2, vs2, rfl, t3, t4⟩ := ru2
    exact ⟨a, a2, vs, vs2, rfl, .inr ⟨(TufAt.mono q1.f t1).sqT, (TufAt.mono q1.f t3).sqT, kk F1 S1 H1 _ _ e1 q1 (ItOk.zipT t1.sqT t2 t3.sqT t4) h1⟩⟩
  · obtain ⟨u, u2, rfl, ru, ru2⟩ := RepL.two rx
    obtain ⟨a, vs, rfl, t1, t2⟩ := ru
    obtain ⟨a2, vs2, rfl, t3, t4⟩ := ru2
    exact ⟨a, a2, vs, vs2, rfl, .inr ⟨.inl (.inl (q1.f _ _ t1)), (TufAt.mono q1.f t3).sqT, kk F1 S1 H1 _ _ e1 q1 (ItOk.zipT (.inl (.inl t1)) t2 t3.sqT t4) h1⟩⟩
  · obtain ⟨u, u2, rfl, ru, ru2⟩ := RepL.two rx
    obtain ⟨a, vs, rfl, t1, t2⟩ := ru
    obtain ⟨a2, vs2, rfl, t3, t4⟩ := ru2
    exact ⟨a, a2, vs, vs2, rfl, .inr ⟨(TufAt.mono q1.f t1).sqT, .inl (.inl (q1.f _ _ t3)), kk F1 S1 H1 _ _ e1 q1 (ItOk.zipT t1.sqT t2 (.inl (.inl t3)) t4) h1⟩⟩

/-! ### targets -/
def gNms : List Nat → TGs
  | [] => gNil
  | i :: is => gCons (gName i) (gNms is)
def gTg (K : PySem.W.Frag) : MT → TG
  | .one i _ => gName i
  | .many l => fun v σ H Q => gTup K l.length (gNms (l.map Prod.fst)) v σ H Q ∨ gUnl K l.length (gNms (l.map Prod.fst)) v σ H Q
theorem Good.name (G : Good C g k N sc rs X) {i : Nat} {x : PySem.Str} {pos : Pos} (h : stE N.N rs i x = true) : PG X (.Name x pos) (gName i) := by
  unfold stE at h
  simp only [Bool.and_eq_true, decide_eq_true_eq] at h
  have hs : rs.names.lookup x = some .local ∨ rs.names.lookup x = some .cell := by
    have h2 := h.2
    split at h2
    · exact .inl (by assumption)
    · exact .inr (by assumption)
    · cases h2
  obtain ⟨q1, q2⟩ := G.st x hs
  exact pg_name (by rw [G.nN]; exact G.nd) (by rw [G.nN]; exact h.1) q1 q2
theorem gnms_ok (G : Good C g k N sc rs X) : ∀ {l : List (Nat × PySem.Str)} {es : List PySem.Expr}, l.length = es.length → ((l.zip es).all fun p => match p.2 with
    | .Name y _ => decide (p.1.2 = y) && stE N.N rs p.1.1 p.1.2
    | _ => false) = true → PGs X es (gNms (l.map Prod.fst)) ∧ (assignEach es X.env).length = l.length ∧ List.findIdx? (fun x => x.1) (assignEach es X.env) = none ∧ (∀ e ∈ es, ∃ x p, e = .Name x p)
  | [], [], _, _ => ⟨pgs_nil, rfl, rfl, fun _ h => by cases h⟩
  | [], _ :: _, h, _ => by cases h
  | _ :: _, [], h, _ => by cases h
  | (i, x) :: l, e :: es, hl, h => by
    rw [List.zip_cons_cons, List.all_cons, Bool.and_eq_true] at h
    obtain ⟨h1, h2⟩ := h
    obtain ⟨g1, g2, g3, g4⟩ := gnms_ok G (by simpa using hl) h2
    cases e <;> first | (cases h1; done) | skip
    rename_i y p
    simp only [Bool.and_eq_true, decide_eq_true_eq] at h1
    obtain ⟨rfl, h1⟩ := h1
    refine ⟨pgs_cons (G.name h1) g1 rfl, ?_, ?_, fun e he => ?_⟩
    · show (assignEach es X.env).length + 1 = l.length + 1
      rw [g2]
    · show List.findIdx? (fun x => x.1) ((false, _) :: assignEach es X.env) = none
      rw [List.findIdx?_cons]
      simp [g3]
    · rcases List.mem_cons.mp he with rfl | he
      · exact ⟨_, _, rfl⟩
      · exact g4 e he
theorem sg (G : Good C g k N sc rs X) : ∀ {t : MT} {e : PySem.Expr}, tgE N.N rs t e = true → PG X e (gTg X.K t) := by
  intro t e h
  cases t with
  | one i x =>
    cases e <;> first | (cases h; done) | skip
    rename_i y p
    have h' : (decide (x = y) && stE N.N rs i x) = true := h
    simp only [Bool.and_eq_true, decide_eq_true_eq] at h'
    obtain ⟨rfl, h'⟩ := h'
    exact G.name h'
  | many l =>
    cases e <;> first | (cases h; done) | skip
    rename_i es n p
    unfold tgE at h
    simp only [Bool.and_eq_true, decide_eq_true_eq] at h
    obtain ⟨g1, g2, g3, _⟩ := gnms_ok G h.1 h.2
    exact ⟨fun pins s σ H v u Q I r hw => hw.elim (fun hw => (pg_tup G.calm g1 g2 g3).run pins s σ H v u Q I r hw) fun hw => (pg_unl G.calm g1 g2 g3).run pins s σ H v u Q I r hw⟩
theorem setAll_ok {K : PySem.W.Frag} {F : Hp} {H : Hp} {Q : L2.St → Hp → Prop} : ∀ {is : List Nat} {xs : List SV} {vs : List V} {ρ ρ' : Ro} {σ : L2.St}, setAll is xs ρ = some ρ' → RepL K F xs vs → RepR K F ρ σ → (∀ σ', RepR K F ρ' σ' → Q σ' H) → gNms is vs σ H Q
  | [], [], vs, ρ, ρ', σ, h, r, rr, q => by
    cases (show some ρ = some ρ' from h)
    exact ⟨r, q σ rr⟩
  | i :: is, x :: xs, vs, ρ, ρ', σ, h, ⟨v, w, h1, h2, h3⟩, rr, q => by
    subst h1
    exact ⟨v, w, rfl, setAll_ok (is := is) (xs := xs) h h3 (rr.set i h2) q⟩
  | [], _ :: _, _, _, _, _, h, _, _, _ => by cases h
  | _ :: _, [], _, _, _, _, h, _, _, _ => by cases h
theorem setAll_len : ∀ {is : List Nat} {xs : List SV} {ρ ρ' : Ro}, setAll is xs ρ = some ρ' → is.length = xs.length
  | [], [], _, _, _ => rfl
  | i :: is, x :: xs, ρ, ρ', h => by
    rw [List.length_cons, List.length_cons, setAll_len (is := is) (xs := xs) h]
  | [], _ :: _, _, _, h => by cases h
  | _ :: _, [], _, _, h => by cases h
theorem tg_ok {K : PySem.W.Frag} {F M H : Hp} {S : Sto} {t : MT} {x : SV} {v : V} {ρ : Ro} {σ : L2.St} {kq : Ro → Prop} {Q : L2.St → Hp → Prop} (q : Sim K F M S H) (rv : RepV K F x v) (rr : RepR K F ρ σ) (h : tgS t S x ρ kq)
    (n : ∀ ρ' σ', RepR K F ρ' σ' → kq ρ' → Q σ' H) : gTg K t v σ H Q := by
  cases t with
  | one i y => exact n _ _ (rr.set i rv) h
  | many l =>
    obtain ⟨xs, ρ', ex, h1, h2⟩ := h
    have hl := setAll_len h1
    rw [List.length_map] at hl
    have tup : (∃ a vs, v = .ref a ∧ SqT K H a vs ∧ RepL K F xs vs) → gTg K (.many l) v σ H Q := fun ⟨a, vs, e, t1, t2⟩ => .inl ⟨a, vs, e, t1, by rw [← t2.length, ← hl], setAll_ok h1 t2 rr fun σ' r' => n ρ' σ' r' h2⟩
    rcases ex with rfl | rfl | ex
    · exact tup (tup_t q rv)
    · exact tup (tuf_t q rv)
    · obtain ⟨a, vs, rfl, t1, t2⟩ := items_l q rv ex
      exact .inr ⟨a, vs, rfl, t1, by rw [← t2.length, ← hl], setAll_ok h1 t2 rr fun σ' r' => n ρ' σ' r' h2⟩
/-- the wiped slots stay wiped -/
theorem wipe_set (σ : L2.St) (vs : List Nat) (i : Nat) (x : Option V) (hi : i ∈ vs) (σ2 : L2.St) (h : L2.wipe σ2 vs = L2.wipe σ vs) : L2.wipe (σ2.set i x) vs = L2.wipe σ vs := by
  rw [← h]
  clear h
  induction vs with
  | nil => cases hi
  | cons v vs ih =>
    show (L2.wipe (σ2.set i x) vs).set v none = (L2.wipe σ2 vs).set v none
    by_cases e : i ∈ vs
    · rw [ih e]
    · have ev : i = v := by
        rcases List.mem_cons.mp hi with e' | e'
        · exact e'
        · exact absurd e' e
      subst ev
      have comm : ∀ (us : List Nat), i ∉ us → L2.wipe (σ2.set i x) us = (L2.wipe σ2 us).set i x := by
        intro us
        induction us with
        | nil => intro _; rfl
        | cons u us ih2 =>
          intro hu
          show (L2.wipe (σ2.set i x) us).set u none = ((L2.wipe σ2 us).set u none).set i x
          rw [ih2 (fun z => hu (List.mem_cons_of_mem _ z)), List.set_comm _ _ (fun z : i = u => hu (by rw [z]; exact List.mem_cons_self))]
      rw [comm vs e, List.set_set]
theorem wipe_wipe (σ : L2.St) : ∀ vs : List Nat, L2.wipe (L2.wipe σ vs) vs = L2.wipe σ vs := fun vs => by
  have : ∀ us : List Nat, (∀ u ∈ us, u ∈ vs) → L2.wipe (L2.wipe σ us) vs = L2.wipe σ vs := by
    intro us
    induction us with
    | nil => intro _; rfl
    | cons u us ih =>
      intro hu
      exact wipe_set σ vs u none (hu u List.mem_cons_self) _ (ih fun z hz => hu z (List.mem_cons_of_mem _ hz))
  exact this vs fun _ h => h
theorem gnms_mono {H : Hp} {Q Q' : L2.St → Hp → Prop} {P : L2.St → Prop} : ∀ {is : List Nat} {vs : List V} {σ : L2.St}, P σ → (∀ σ i v, i ∈ is → P σ → P (σ.set i (some v))) → (∀ σ', P σ' → Q σ' H → Q' σ' H) → gNms is vs σ H Q → gNms is vs σ H Q'
  | [], vs, σ, p, _, n, h => ⟨h.1, n σ p h.2⟩
  | i :: is, vs, σ, p, s, n, ⟨v, w, h1, h2⟩ => ⟨v, w, h1, gnms_mono (is := is) (s σ i v List.mem_cons_self p) (fun σ j v hj => s σ j v (List.mem_cons_of_mem _ hj)) n h2⟩
theorem gtg_mono {K : PySem.W.Frag} {t : MT} {v : V} {σ : L2.St} {H : Hp} {Q Q' : L2.St → Hp → Prop} {P : L2.St → Prop} (p : P σ) (s : ∀ σ i v, i ∈ tgI t → P σ → P (σ.set i (some v))) (n : ∀ σ', P σ' → Q σ' H → Q' σ' H) (h : gTg K t v σ H Q) : gTg K t v σ H Q' := by
  cases t with
  | one i y => exact n _ (s σ i v (by simp [tgI]) p) h
  | many l =>
    rcases h with ⟨a, vs, h1, h2, h3, h4⟩ | ⟨a, vs, h1, h2, h3, h4⟩
    · exact .inl ⟨a, vs, h1, h2, h3, gnms_mono p s n h4⟩
    · exact .inr ⟨a, vs, h1, h2, h3, gnms_mono p s n h4⟩
/-! ### comprehensions -/
theorem se_lc (G : Good C g k N sc rs X) {own : Bool} {ow : List (PySem.Str × Nat)} {elt : ME} {t : MT} {ik : ItK} {ia : MA} {c : MO} {e tg iter : PySem.Expr} {ifs : List PySem.Expr} {scope : Scope}
    (hb : BlkOk N.N sc scope ow) (hw : ∀ i ∈ tgI t, i ∈ ow.map Prod.snd) (hi : PI X tg iter (LI X.K fun ρ S q => wA C g ia ρ S fun vs S1 => itS ik vs S1 fun l => q l S1)) (hf : ∀ x, foldedSetIterable iter X.env x = pure x)
    (hg : ∀ (s : Shared) (H : Hp) (Cc : Addr) (cl : List (PySem.Str × Addr)) (fp : List Addr), PG (X.blk s H scope (compEnvC scope cl Cc X.env) fp) tg (gTg X.K t))
    (hc : ∀ (s : Shared) (H : Hp) (Cc : Addr) (cl : List (PySem.Str × Addr)) (fp : List Addr), PTs (X.blk s H scope (compEnvC scope cl Cc X.env) fp) ifs (LT X.K (wC C g c)))
    (he : ∀ (s : Shared) (H : Hp) (Cc : Addr) (cl : List (PySem.Str × Addr)) (fp : List Addr), PE (X.blk s H scope (compEnvC scope cl Cc X.env) fp) e (LE X.K (wE C g elt))) :
    ∀ σ H Q, LE X.K (wE C g (.lc own ow elt t ik ia c)) σ H Q → tLc (LI X.K fun ρ S q => wA C g ia ρ S fun vs S1 => itS ik vs S1 fun l => q l S1) (gTg X.K t) (LT X.K (wC C g c)) (LE X.K (wE C g elt)) (ow.map Prod.snd) σ H Q := by
  intro σ H Q z
  obtain ⟨F, M, S, ρ, k, r, q, h, kk⟩ := z
  refine ⟨F, M, S, ρ, _, r, q, h, fun F1 S1 H1 l J e1 q1 hJ h1 => ?_⟩
  intro D hD
  have hMD : M D = none := q1.freeM hD
  have rw1 := (r.mono e1).wipe (ow.map Prod.snd)
  -- the turns left, the list so far, the data state
  refine ⟨fun i m H' => i + m = l.length ∧ ∃ (F' : Hp) (S' : Sto) (acc : List SV) (vs : List V), Same F1 F' ∧ Sim X.K F' (upd M D (.lst vs)) S' H' ∧ RepL X.K F' acc vs ∧
      lcRun t (wipeR ρ (ow.map Prod.snd)) (wC C g c) (wE C g elt) (l.drop i) acc S' (fun acc S2 => newL own acc S2 k),
    ⟨l.length, by omega, F1, S1, [], [], Same.rfl', q1.newM hD (fun vs e => by cases e), rfl, h1⟩, fun i m H' hW => ?_⟩
  obtain ⟨em, F', S', acc, vs, s1, q2, ra, h2⟩ := hW
  obtain ⟨j1, j2, j3⟩ := hJ F' _ S' H' s1 q2
  by_cases hlt : i < l.length
  · rw [List.drop_eq_getElem_cons hlt] at h2
    refine .inr ⟨j1 i hlt, fun H'' => ∃ (F' : Hp) (S' : Sto) (acc : List SV) (vs : List V), Same F1 F' ∧ Sim X.K F' (upd M D (.lst vs)) S' H'' ∧ RepL X.K F' acc vs ∧
      lcRun t (wipeR ρ (ow.map Prod.snd)) (wC C g c) (wE C g elt) (l.drop (i + 1)) acc S' (fun acc S2 => newL own acc S2 k), fun H'' hN => ⟨m - 1, by omega, by omega, hN⟩, fun x H'' hy => ?_⟩
    obtain ⟨F2, s2, q3, rx⟩ := j3 i _ (List.getElem?_eq_getElem hlt) x H'' hy
    have tgt := tg_ok q3 rx (rw1.mono (s1.trans s2)) h2 (Q := fun σ2 H2 => LT X.K (wC C g c) σ2 H2 fun b H3 => if b = true then LE X.K (wE C g elt) σ2 H3 fun y H4 => ∃ ac, H4 D = some (.lst ac) ∧ ac.length < sizeLine ∧ ∃ (F' : Hp) (S' : Sto) (acc : List SV) (vs : List V), Same F1 F' ∧ Sim X.K F' (upd M D (.lst vs)) S' (upd H4 D (.lst (ac ++ [y]))) ∧ RepL X.K F' acc vs ∧
      lcRun t (wipeR ρ (ow.map Prod.snd)) (wC C g c) (wE C g elt) (l.drop (i + 1)) acc S' (fun acc S2 => newL own acc S2 k) else ∃ (F' : Hp) (S' : Sto) (acc : List SV) (vs : List V), Same F1 F' ∧ Sim X.K F' (upd M D (.lst vs)) S' H3 ∧ RepL X.K F' acc vs ∧
      lcRun t (wipeR ρ (ow.map Prod.snd)) (wC C g c) (wE C g elt) (l.drop (i + 1)) acc S' (fun acc S2 => newL own acc S2 k)) (fun ρ' σ' rr hk => ?_)
    · refine gtg_mono (P := fun σ2 => L2.wipe σ2 (ow.map Prod.snd) = L2.wipe σ (ow.map Prod.snd)) ?_ ?_ (fun σ2 p2 hq => ⟨?_, hq⟩) tgt
      · exact wipe_wipe σ _
      · intro σ2 j v hj p2
        exact wipe_set σ _ j _ (hw j hj) σ2 p2
      · rw [p2]
    · refine ⟨F2, _, S', ρ', _, rr, q3, hk, fun F3 S3 H3 b s3 q4 hk3 => ?_⟩
      have s13 := (s1.trans s2).trans s3
      cases b with
      | false =>
        dsimp only at hk3 ⊢
        rw [if_neg Bool.false_ne_true] at hk3 ⊢
        exact ⟨F3, S3, acc, vs, s13, q4, RepL.mono (s2.trans s3) _ _ ra, hk3⟩
      | true =>
        dsimp only at hk3 ⊢
        rw [if_pos rfl] at hk3 ⊢
        refine ⟨F3, _, S3, ρ', _, rr.mono s3, q4, hk3, fun F4 S4 H4 y v s4 q5 ry hk4 => ?_⟩
        have s24 := (s2.trans s3).trans s4
        refine ⟨vs, (q5.m D _ upd_same).1, by rw [← ra.length]; exact hk4.1, F4, S4, acc ++ [y], vs ++ [v], s13.trans s4, q5.setM (fun vs e => by cases e), RepL.append (RepL.mono s24 _ _ ra) (RepL.single ry), hk4.2⟩
  · have hi' : i = l.length := by omega
    subst hi'
    rw [List.drop_length] at h2
    refine .inl ⟨j2, ?_⟩
    have h3 : newL own acc S' k := h2
    obtain ⟨h4, h5⟩ := h3
    cases own with
    | true =>
      have h6 : ∀ p, S' p = none → k (.own p) (supd S' p (.lst acc)) := by simpa using h5
      exact kk F' _ H' (.own D) _ (e1.trans s1) (q2.ownM (x := .lst acc) hMD ⟨vs, rfl, ra⟩) rfl (h6 D (q2.m D _ upd_same).2.2.1)
    | false =>
      have h6 : k (.lst acc) S' := by simpa using h5
      obtain ⟨t1, t2⟩ := q2.freezeM hMD
      exact kk _ S' H' (.lst acc) _ ((e1.trans s1).trans t1) t2 ⟨D, vs, rfl, .inl upd_same, RepL.mono t1 _ _ ra⟩ h6

/-! ### conditions and tests -/
theorem LT.ofB {K : PySem.W.Frag} {m : ME} {σ : L2.St} {H : Hp} {Q : Bool → Hp → Prop} (z : LT K (wT C g m) σ H Q) : LE K (wE C g m) σ H fun x H1 => ∃ c, x = V.bl c ∧ Q c H1 := by
  obtain ⟨F, M, S, ρ, k, r, q, h, kk⟩ := z
  refine LE.bind r q h fun F1 S1 H1 x v e1 q1 rx r1 h1 => ?_
  obtain ⟨b, rfl, h1⟩ := h1
  exact ⟨b, rx, kk F1 S1 H1 b e1 q1 h1⟩
theorem st_val {m : ME} {e : PySem.Expr} (he : PE X e (LE X.K (wE C g m))) (hp : plE e = true) (hb : boE e = false) : PT X e (LT X.K (wT C g m)) := PT.imp (pt_val he (pl_tru hp hb X.env)) fun _ _ _ z => LT.ofB z
theorem st_cmp (G : Good C g k N sc rs X) {o : CmpOp} {a b : ME} {l r : PySem.Expr} {pos : Pos} (ha : PE X l (LE X.K (wE C g a))) (hb : PE X r (LE X.K (wE C g b))) (hp : plE r = true) : PT X (.Compare l [o] [r] pos) (LT X.K (wT C g (.cmp o a b))) :=
  PT.imp (pt_cmpR (op_cmpS G.room o) ha hb (pl_mark hp o)) fun σ H Q z => le_cmp (LT.ofB z)
theorem LT.bind {K : PySem.W.Frag} {t : Ro → Sto → (Bool → Sto → Prop) → Prop} {F M H : Hp} {S : Sto} {ρ : Ro} {σ : L2.St} {kq : Bool → Sto → Prop} {Q : Bool → Hp → Prop} (r : RepR K F ρ σ) (q : Sim K F M S H) (h : t ρ S kq)
    (n : ∀ F' S' H' b, Same F F' → Sim K F' M S' H' → RepR K F' ρ σ → kq b S' → Q b H') : LT K t σ H Q :=
  ⟨F, M, S, ρ, kq, r, q, h, fun F' S' H' b e q' z => n F' S' H' b e q' (r.mono e) z⟩
theorem st_not {a : ME} {e : PySem.Expr} {pos : Pos} (ha : PT X e (LT X.K (wT C g a))) : PT X (.UnaryOp .Not e pos) (LT X.K (wT C g (.not a))) := PT.imp (pt_not ha) fun σ H Q z => by
  obtain ⟨F, M, S, ρ, k, r, q, h, kk⟩ := z
  refine ⟨F, M, S, ρ, fun b S1 => k (!b) S1, r, q, ?_, fun F1 S1 H1 b e1 q1 h1 => kk F1 S1 H1 _ e1 q1 h1⟩
  have h' : wE C g a ρ S fun x S1 => ∃ q, x = .bl q ∧ ∃ b, SV.bl (!q) = .bl b ∧ k b S1 := h
  have e : (fun (x : SV) (S1 : Sto) => ∃ q, x = .bl q ∧ ∃ b, SV.bl (!q) = .bl b ∧ k b S1) = fun v S1 => ∃ b, v = .bl b ∧ k (!b) S1 := by
    funext x S1
    refine propext ⟨fun ⟨q, e1, b, e2, z⟩ => ⟨q, e1, by cases e2; exact z⟩, fun ⟨q, e1, z⟩ => ⟨q, e1, _, rfl, z⟩⟩
  rw [e] at h'
  exact h'
theorem w_and {a b : ME} {ρ : Ro} {S : Sto} {kq : Bool → Sto → Prop} (h : wT C g (.and a b) ρ S kq) : wT C g a ρ S fun p S1 => if p = true then wT C g b ρ S1 kq else kq false S1 := by
  have h' : wE C g a ρ S fun x S1 => ∃ q, x = .bl q ∧ if q = true then wE C g b ρ S1 (fun v S2 => ∃ c, v = .bl c ∧ kq c S2) else ∃ c, SV.bl false = .bl c ∧ kq c S1 := h
  have e : (fun (x : SV) (S1 : Sto) => ∃ q, x = .bl q ∧ if q = true then wE C g b ρ S1 (fun v S2 => ∃ c, v = .bl c ∧ kq c S2) else ∃ c, SV.bl false = .bl c ∧ kq c S1) = fun v S1 => ∃ p, v = .bl p ∧ if p = true then wT C g b ρ S1 kq else kq false S1 := by
    funext x S1
    refine propext ⟨fun ⟨q, e1, z⟩ => ⟨q, e1, ?_⟩, fun ⟨q, e1, z⟩ => ⟨q, e1, ?_⟩⟩
    · cases q with
      | true => exact z
      | false =>
        rw [if_neg Bool.false_ne_true] at z ⊢
        obtain ⟨c, e2, z⟩ := z
        cases e2
        exact z
    · cases q with
      | true => exact z
      | false =>
        rw [if_neg Bool.false_ne_true] at z ⊢
        exact ⟨_, rfl, z⟩
  rw [e] at h'
  exact h'
theorem w_or {a b : ME} {ρ : Ro} {S : Sto} {kq : Bool → Sto → Prop} (h : wT C g (.or a b) ρ S kq) : wT C g a ρ S fun p S1 => if p = true then kq true S1 else wT C g b ρ S1 kq := by
  have h' : wE C g a ρ S fun x S1 => ∃ q, x = .bl q ∧ if q = true then ∃ c, SV.bl true = .bl c ∧ kq c S1 else wE C g b ρ S1 (fun v S2 => ∃ c, v = .bl c ∧ kq c S2) := h
  have e : (fun (x : SV) (S1 : Sto) => ∃ q, x = .bl q ∧ if q = true then ∃ c, SV.bl true = .bl c ∧ kq c S1 else wE C g b ρ S1 (fun v S2 => ∃ c, v = .bl c ∧ kq c S2)) = fun v S1 => ∃ p, v = .bl p ∧ if p = true then kq true S1 else wT C g b ρ S1 kq := by
    funext x S1
    refine propext ⟨fun ⟨q, e1, z⟩ => ⟨q, e1, ?_⟩, fun ⟨q, e1, z⟩ => ⟨q, e1, ?_⟩⟩
    · cases q with
      | false => exact z
      | true =>
        rw [if_pos rfl] at z ⊢
        obtain ⟨c, e2, z⟩ := z
        cases e2
        exact z
    · cases q with
      | false => exact z
      | true =>
        rw [if_pos rfl] at z ⊢
        exact ⟨_, rfl, z⟩
  rw [e] at h'
  exact h'
theorem sw_one {a : ME} {e : PySem.Expr} {pos : Pos} {op : BoolOp} (ha : PT X e (LT X.K (wT C g a))) : PW X (.BoolOp op [e] pos) (LT X.K (wT C g a)) := by
  cases op with
  | And => exact pw_and1 ha
  | Or => exact pw_or1 ha
theorem sw_and {a b : ME} {e e2 : PySem.Expr} {rest : List PySem.Expr} {pos : Pos} (ha : PT X e (LT X.K (wT C g a))) (hb : PW X (.BoolOp .And (e2 :: rest) pos) (LT X.K (wT C g b))) : PW X (.BoolOp .And (e :: e2 :: rest) pos) (LT X.K (wT C g (.and a b))) := PW.imp (pw_and ha hb) fun σ H Q z => by
  obtain ⟨F, M, S, ρ, k, r, q, h, kk⟩ := z
  refine LT.bind r q (w_and h) fun F1 S1 H1 p e1 q1 r1 h1 => ?_
  cases p with
  | true => exact ⟨F1, M, S1, ρ, k, r1, q1, h1, fun F' S' H' b e q' z => kk F' S' H' b (e1.trans e) q' z⟩
  | false => exact kk F1 S1 H1 false e1 q1 h1
theorem sw_or {a b : ME} {e e2 : PySem.Expr} {rest : List PySem.Expr} {pos : Pos} (ha : PT X e (LT X.K (wT C g a))) (hb : PW X (.BoolOp .Or (e2 :: rest) pos) (LT X.K (wT C g b))) : PW X (.BoolOp .Or (e :: e2 :: rest) pos) (LT X.K (wT C g (.or a b))) := PW.imp (pw_or ha hb) fun σ H Q z => by
  obtain ⟨F, M, S, ρ, k, r, q, h, kk⟩ := z
  refine LT.bind r q (w_or h) fun F1 S1 H1 p e1 q1 r1 h1 => ?_
  cases p with
  | false => exact ⟨F1, M, S1, ρ, k, r1, q1, h1, fun F' S' H' b e q' z => kk F' S' H' b (e1.trans e) q' z⟩
  | true => exact kk F1 S1 H1 true e1 q1 h1
theorem sc_none : PTs X [] (LT X.K (wC C g .none)) := by
  refine ⟨fun pins s σ H Q I z => pts_nil.run pins s σ H Q I ?_⟩
  obtain ⟨F, M, S, ρ, k, r, q, h, kk⟩ := z
  exact kk F S H true Same.rfl' q h
theorem sc_some {m : ME} {e : PySem.Expr} (he : PT X e (LT X.K (wT C g m))) : PTs X [e] (LT X.K (wC C g (.some m))) := pts_one he
end
end Sy

/-! instances: fields, methods, new ones; dicts whose keys are tuples: pop, len, one written -/
namespace Sy
open PySem PySem.Spec PyProof.Rows L2
section
variable {K : PySem.W.Frag} {F M H : Hp} {S : Sto}
theorem RepF.none {m : PySem.Str} : ∀ {l : List (PySem.Str × SV)} {gs : List (PySem.Str × V)}, RepF K F l gs → l.lookup m = Option.none → gs.lookup m = Option.none
  | [], _, h, _ => by rw [show _ = ([] : List (PySem.Str × V)) from h]; rfl
  | p :: l, _, ⟨v, r, h1, h2, h3⟩, h => by
    subst h1
    rw [List.lookup_cons] at h ⊢
    cases e : m == p.1 with
    | true => rw [e] at h; cases h
    | false =>
      rw [e] at h
      exact RepF.none h3 h
theorem RepF.put {f : PySem.Str} {x : SV} {v : V} (rv : RepV K F x v) : ∀ {l : List (PySem.Str × SV)} {gs : List (PySem.Str × V)}, RepF K F l gs → RepF K F (putFS f x l) (putF f v gs)
  | [], _, h => by
    rw [show _ = ([] : List (PySem.Str × V)) from h]
    exact ⟨v, [], rfl, rv, rfl⟩
  | p :: l, _, ⟨w, r, h1, h2, h3⟩ => by
    subst h1
    obtain ⟨g, y⟩ := p
    show RepF K F (if g = f then (g, x) :: l else (g, y) :: putFS f x l) (if g = f then (g, v) :: r else (g, w) :: putF f v r)
    by_cases e : g = f
    · rw [if_pos e, if_pos e]
      exact ⟨v, r, rfl, rv, h3⟩
    · rw [if_neg e, if_neg e]
      exact ⟨w, _, rfl, h2, RepF.put rv h3⟩
theorem RepF.len : ∀ {l : List (PySem.Str × SV)} {gs : List (PySem.Str × V)}, RepF K F l gs → l.length = gs.length
  | [], _, h => by rw [show _ = ([] : List (PySem.Str × V)) from h]; rfl
  | p :: l, _, ⟨w, r, h1, h2, h3⟩ => by
    rw [h1, List.length_cons, List.length_cons, RepF.len h3]
theorem InsK.uniq {c : PySem.Str} {C D : Addr} (h : InsK K c C) (g : InsK K c D) : C = D := by
  have := h.ns.symm.trans g.ns
  cases this
  rfl
end
section
variable {C : Cal} {g : PySem.Str → Option SV} {k : Nat} {N : Ck} {sc rs : Scope} {X : Cx}
/-! dicts whose keys are tuples -/
end
end Sy

/-! tables of sets whose masks are any power of two less one -/
namespace Sy
open PySem PySem.Spec PyProof.Rows L2
/-! ### i -> 5 i + 1 goes round modulo each power of two -/
def fv (i : Nat) : Nat → Nat
  | 0 => i
  | n + 1 => fv i n * 5 + 1
theorem fv_at (i : Nat) : ∀ n, fv i n = i + (4 * i + 1) * fv 0 n
  | 0 => by show i = i + (4 * i + 1) * 0; omega
  | n + 1 => by
    have ih := fv_at i n
    show fv i n * 5 + 1 = i + (4 * i + 1) * (fv 0 n * 5 + 1)
    rw [Nat.mul_add, Nat.mul_one, ← Nat.mul_assoc]
    omega
theorem fv_add (a : Nat) : ∀ d, fv 0 (a + d) = fv 0 a + (4 * fv 0 a + 1) * fv 0 d
  | 0 => by show fv 0 a = fv 0 a + (4 * fv 0 a + 1) * 0; omega
  | d + 1 => by
    have ih := fv_add a d
    show fv 0 (a + d) * 5 + 1 = fv 0 a + (4 * fv 0 a + 1) * (fv 0 d * 5 + 1)
    rw [Nat.mul_add, Nat.mul_one, ← Nat.mul_assoc]
    omega
theorem fv_odd : ∀ n, fv 0 n % 2 = n % 2
  | 0 => rfl
  | n + 1 => by
    have ih := fv_odd n
    show (fv 0 n * 5 + 1) % 2 = (n + 1) % 2
    omega
theorem odd_dvd (c : Nat) : ∀ k a : Nat, 2 ^ k ∣ a * (2 * c + 1) → 2 ^ k ∣ a
  | 0, a, _ => ⟨a, by simp⟩
  | k + 1, a, h => by
    obtain ⟨q, hq⟩ := h
    have e1 : a * (2 * c + 1) = 2 * (a * c) + a := by rw [Nat.mul_add, Nat.mul_one, Nat.mul_left_comm]
    have e2 : 2 ^ (k + 1) * q = 2 * (2 ^ k * q) := by rw [Nat.pow_succ, Nat.mul_comm (2 ^ k) 2, Nat.mul_assoc]
    have ha : a % 2 = 0 := by omega
    obtain ⟨b, hb⟩ : ∃ b, a = 2 * b := ⟨a / 2, by omega⟩
    have e3 : a * (2 * c + 1) = 2 * (b * (2 * c + 1)) := by rw [hb, Nat.mul_assoc]
    obtain ⟨r, hr⟩ := odd_dvd c k b ⟨q, by omega⟩
    exact ⟨r, by rw [hb, hr, Nat.pow_succ, Nat.mul_comm (2 ^ k) 2, Nat.mul_assoc]⟩
theorem fv_dvd : ∀ k n : Nat, 2 ^ k ∣ fv 0 n → 2 ^ k ∣ n
  | 0, n, _ => ⟨n, by simp⟩
  | k + 1, n, h => by
    obtain ⟨q, hq⟩ := h
    have e2 : 2 ^ (k + 1) * q = 2 * (2 ^ k * q) := by rw [Nat.pow_succ, Nat.mul_comm (2 ^ k) 2, Nat.mul_assoc]
    have ho := fv_odd n
    obtain ⟨b, hb⟩ : ∃ b, n = b + b := ⟨n / 2, by omega⟩
    have e3 : fv 0 n = 2 * (fv 0 b * (2 * fv 0 b + 1)) := by
      have z := fv_add b b
      have y : (4 * fv 0 b + 1) * fv 0 b = 4 * (fv 0 b * fv 0 b) + fv 0 b := by rw [Nat.add_mul, Nat.one_mul, Nat.mul_assoc]
      have x : fv 0 b * (2 * fv 0 b + 1) = 2 * (fv 0 b * fv 0 b) + fv 0 b := by rw [Nat.mul_add, Nat.mul_one, Nat.mul_left_comm]
      rw [← hb] at z
      omega
    obtain ⟨r, hr⟩ := fv_dvd k b (odd_dvd (fv 0 b) k (fv 0 b) ⟨q, by omega⟩)
    exact ⟨r, by rw [hb, Nat.pow_succ, Nat.mul_comm (2 ^ k) 2, Nat.mul_assoc, ← hr]; omega⟩
theorem fv_inj {k i a d : Nat} (h : fv i (a + d) % 2 ^ k = fv i a % 2 ^ k) (hd : d < 2 ^ k) : d = 0 := by
  have e : fv i (a + d) = fv i a + fv 0 d * (2 * (2 * fv 0 a) + 1) * (2 * (2 * i) + 1) := by
    rw [fv_at i (a + d), fv_at i a, fv_add, Nat.mul_add, Nat.add_assoc, show 2 * (2 * fv 0 a) + 1 = 4 * fv 0 a + 1 by omega, show 2 * (2 * i) + 1 = 4 * i + 1 by omega, Nat.mul_comm (fv 0 d) (4 * fv 0 a + 1), Nat.mul_comm ((4 * fv 0 a + 1) * fv 0 d) (4 * i + 1)]
  have h2 : 2 ^ k ∣ fv 0 d * (2 * (2 * fv 0 a) + 1) * (2 * (2 * i) + 1) := by
    rw [e] at h
    have h3 := Nat.sub_mod_eq_zero_of_mod_eq h
    rw [Nat.add_sub_cancel_left] at h3
    exact Nat.dvd_of_mod_eq_zero h3
  obtain ⟨q, hq⟩ := fv_dvd k d (odd_dvd _ k _ (odd_dvd _ k _ h2))
  cases q with
  | zero => rw [hq, Nat.mul_zero]
  | succ q =>
    rw [hq, Nat.mul_succ] at hd
    omega
theorem lcg_fv (m i : Nat) (hi : i ≤ m) : ∀ n, lcgI m i n = fv i n % (m + 1)
  | 0 => (Nat.mod_eq_of_lt (Nat.lt_succ_of_le hi)).symm
  | n + 1 => by
    show (lcgI m i n * 5 + 1) % (m + 1) = (fv i n * 5 + 1) % (m + 1)
    rw [lcg_fv m i hi n, Nat.add_mod, Nat.mul_mod, Nat.mod_mod, ← Nat.mul_mod, ← Nat.add_mod]
/-- a mask: a power of two less one -/
def Msk (m : Nat) : Prop := ∃ k, m + 1 = 2 ^ (k + 1)
theorem Msk.odd {m : Nat} : Msk m → m % 2 = 1
  | ⟨k, e⟩ => by rw [Nat.pow_succ] at e; omega
theorem Msk.round {m : Nat} (hm : Msk m) {i j : Nat} (hi : i ≤ m) (hj : j ≤ m) : ∃ n, n ≤ m ∧ lcgI m i n = j := by
  obtain ⟨k, hk⟩ := hm
  rcases Classical.em (j ∈ (List.range (m + 1)).map fun n => fv i n % (m + 1)) with c | c
  · obtain ⟨n, hn, e⟩ := List.mem_map.mp c
    exact ⟨n, Nat.le_of_lt_succ (List.mem_range.mp hn), (lcg_fv m i hi n).trans e⟩
  · exfalso
    have nd : ((List.range (m + 1)).map fun n => fv i n % (m + 1)).Nodup := by
      refine List.pairwise_map.mpr (List.Pairwise.imp_of_mem (fun {a b} ha hb (lt : a < b) e => ?_) List.pairwise_lt_range)
      have hb' := List.mem_range.mp hb
      have e' : fv i (a + (b - a)) % 2 ^ (k + 1) = fv i a % 2 ^ (k + 1) := by
        rw [show a + (b - a) = b by omega, ← hk]
        exact e.symm
      have := fv_inj e' (by rw [← hk]; omega)
      omega
    have z := nat_nodup_len (j :: (List.range (m + 1)).map fun n => fv i n % (m + 1)) (List.range (m + 1)) (List.nodup_cons.mpr ⟨c, nd⟩) fun x hx => by
      rcases List.mem_cons.mp hx with e | hx
      · rw [e]; exact List.mem_range.mpr (Nat.lt_succ_of_le hj)
      · obtain ⟨n, _, e⟩ := List.mem_map.mp hx
        rw [← e]
        exact List.mem_range.mpr (Nat.mod_lt _ (Nat.succ_pos _))
    rw [List.length_cons, List.length_map, List.length_range] at z
    omega
theorem Msk.meets {m : Nat} (hm : Msk m) (h : Int) {j : Nat} (hj : j ≤ m) : ∃ n, n ≤ m + 12 ∧ runI m (SetTable.bits h) n = j := by
  obtain ⟨k, hk, e⟩ := hm.round (runI_le m (SetTable.bits h) 12) hj
  refine ⟨12 + k, by omega, ?_⟩
  rw [runI_tail (bits_lt h), e]
theorem Msk.nth {m : Nat} (hm : Msk m) (h : Int) {j : Nat} (hj : j ≤ m) : ∃ k, k < 10 * SetTable.turns m ∧ way m h k = j := by
  obtain ⟨n, hn, e⟩ := hm.meets h hj
  obtain ⟨k, hk, e2⟩ := run_nth m (SetTable.bits h) n
  have ht : SetTable.turns m = m + 15 := rfl
  exact ⟨k, by omega, (congrArg SetTable.Probe.j e2).trans e⟩
theorem way_in (m : Nat) (h : Int) (k : Nat) : way m h k ≤ m := by
  have hi : SetTable.bits h % (m + 1) < m + 1 := Nat.mod_lt _ (Nat.succ_pos _)
  have r := runEnd_bd (Nat.le_of_lt_succ hi)
  have q : (runAt m (SetTable.bits h % (m + 1)) (SetTable.bits h)).j + (runAt m (SetTable.bits h % (m + 1)) (SetTable.bits h)).more ≤ m := by
    simp only [runAt]
    omega
  exact Nat.le_trans (Nat.le_add_right _ _) (nth_in k _ q)
theorem sizeGo (n : Nat) : ∀ (f j : Nat), n < 2 ^ (j + f) → 2 ^ j ≤ 2 * n + 8 → ∃ k, SetTable.sizeAbove.go n f (2 ^ j) = 2 ^ k ∧ j ≤ k ∧ n < 2 ^ k ∧ 2 ^ k ≤ 2 * n + 8
  | 0, j, h, b => ⟨j, rfl, Nat.le_refl _, h, b⟩
  | f + 1, j, h, b => by
    show ∃ k, (if 2 ^ j ≤ n then SetTable.sizeAbove.go n f (2 ^ j * 2) else 2 ^ j) = 2 ^ k ∧ _
    by_cases c : 2 ^ j ≤ n
    · obtain ⟨k, e, h1, h2, h3⟩ := sizeGo n f (j + 1) (by rw [show j + 1 + f = j + (f + 1) by omega]; exact h) (by rw [Nat.pow_succ]; omega)
      exact ⟨k, by rw [if_pos c, ← Nat.pow_succ]; exact e, by omega, h2, h3⟩
    · exact ⟨j, if_neg c, Nat.le_refl _, by omega, b⟩
theorem size_up {n : Nat} (h : n ≤ 4000) : Msk (SetTable.sizeAbove n - 1) ∧ n < SetTable.sizeAbove n ∧ SetTable.sizeAbove n ≤ 2 * n + 8 := by
  obtain ⟨k, e, h1, h2, h3⟩ := sizeGo n 64 3 (Nat.lt_of_le_of_lt h (by decide)) (by show 8 ≤ _; omega)
  have e' : SetTable.sizeAbove n = 2 ^ k := e
  rw [e']
  obtain ⟨k', rfl⟩ : ∃ k', k = k' + 1 := ⟨k - 1, by omega⟩
  exact ⟨⟨k', by omega⟩, h2, h3⟩
/-! ### the table -/
structure Tb (t : SetTable) (hs : List Int) : Prop where
  ris : Ris t.place.toList
  none : t.dummies = #[]
  many : t.place.size = hs.length
  msk : Msk t.mask
  found : ∀ (i : Nat) (h : Int) (j : Nat), hs[i]? = some h → t.place.toList[i]? = some j → ∃ k, way t.mask h k = j ∧ ∀ q, q < k → way t.mask h q ∈ t.place.toList
theorem Tb.first {t : SetTable} {hs : List Int} (T : Tb t hs) (hl : hs.length ≤ t.mask) (h : Int) : ∃ K, K < 10 * SetTable.turns t.mask ∧ way t.mask h K ∉ t.place.toList ∧ ∀ k, k < K → way t.mask h k ∈ t.place.toList := by
  have few : t.place.toList.length < t.mask + 1 := by have := T.many; rw [Array.length_toList]; omega
  obtain ⟨j, hj, no⟩ := st_missing _ _ few
  obtain ⟨k, hk, e⟩ := T.msk.nth h (Nat.le_of_lt_succ hj)
  obtain ⟨K, h1, h2, h3⟩ := st_least (p := fun k => ¬ way t.mask h k ∈ t.place.toList) k (show ¬ way t.mask h k ∈ t.place.toList by rw [e]; exact no)
  exact ⟨K, by omega, h2, fun q hq => Classical.byContradiction fun c => h3 q hq c⟩
theorem Tb.ahead {t : SetTable} {hs : List Int} (T : Tb t hs) {h : Int} {K i j : Nat} (hK : way t.mask h K ∉ t.place.toList) (hi : hs[i]? = some h) (hj : t.place.toList[i]? = some j) : ∃ k, k < K ∧ way t.mask h k = j := by
  obtain ⟨k, e, b⟩ := T.found i h j hi hj
  refine ⟨k, Classical.byContradiction fun c => ?_, e⟩
  rcases Nat.lt_or_ge K k with c2 | c2
  · exact hK (b K c2)
  · have : k = K := by omega
    subst this
    exact hK (by rw [e]; exact List.mem_of_getElem? hj)
theorem Tb.put {t : SetTable} {hs : List Int} (T : Tb t hs) {h : Int} {K : Nat} (hK : way t.mask h K ∉ t.place.toList) (hb : ∀ k, k < K → way t.mask h k ∈ t.place.toList) :
    SetTable.below t.place (way t.mask h K) ≤ hs.length ∧ Tb (t.put (way t.mask h K)).1 (hs.take (SetTable.below t.place (way t.mask h K)) ++ h :: hs.drop (SetTable.below t.place (way t.mask h K))) ∧ (t.put (way t.mask h K)).1.fill = hs.length + 1 := by
  generalize ej : way t.mask h K = j at hK
  obtain ⟨c1, _, _⟩ := below_cut T.ris j
  have hm := T.many
  have lp : SetTable.below t.place j ≤ hs.length := by rw [← hm]; exact c1
  have lq : SetTable.below t.place j ≤ t.place.toList.length := c1
  have nj : t.place[SetTable.below t.place j]? ≠ some j := fun e => hK (List.mem_of_getElem? (i := SetTable.below t.place j) (by rw [Array.getElem?_toList, e]))
  have pl := put_place t j
  have sz : (t.put j).1.place.size = hs.length + 1 := by
    have := congrArg List.length pl
    rw [len_ins _ lq, Array.length_toList, Array.length_toList, hm] at this
    exact this
  have sub : ∀ x, x ∈ t.place.toList → x ∈ (t.put j).1.place.toList := fun x hx => by rw [pl]; exact mem_ins.2 (.inr hx)
  have dm := put_dm T.none j
  refine ⟨lp, ⟨ris_insert T.ris nj, dm, by rw [sz, len_ins hs lp], T.msk, fun i h' j' a1 a2 => ?_⟩, by
    show (t.put j).1.place.size + (t.put j).1.dummies.size = _
    rw [sz, dm]
    rfl⟩
  rw [pl, tins_get _ lq] at a2
  rw [tins_get hs lp] at a1
  have from_ : ∀ q : Nat, hs[q]? = some h' → t.place.toList[q]? = some j' → ∃ k, way (t.put j).1.mask h' k = j' ∧ ∀ q, q < k → way (t.put j).1.mask h' q ∈ (t.put j).1.place.toList := fun q b1 b2 => by
    obtain ⟨k, e, z⟩ := T.found q h' j' b1 b2
    exact ⟨k, e, fun q hq => sub _ (z q hq)⟩
  rcases Nat.lt_trichotomy i (SetTable.below t.place j) with c | c | c
  · simp only [if_pos c] at a1 a2
    exact from_ i a1 a2
  · have c' : ¬ i < SetTable.below t.place j := by omega
    simp only [if_neg c', if_pos c] at a1 a2
    cases a1
    cases a2
    exact ⟨K, ej, fun q hq => sub _ (hb q hq)⟩
  · have c' : ¬ i < SetTable.below t.place j := by omega
    have c2 : ¬ i = SetTable.below t.place j := by omega
    simp only [if_neg c', if_neg c2] at a1 a2
    exact from_ (i - 1) a1 a2
theorem seat_free {m : Nat} (hm : Msk m) (o : Array (Option Nat)) (h : Int) {j : Nat} (hj : j ≤ m) (hf : oAt o j = none) :
    ∃ K, SetTable.layClean.free m o (SetTable.turns m) (SetTable.bits h % (m + 1)) (SetTable.bits h) = some (way m h K) ∧ oAt o (way m h K) = none ∧ ∀ k, k < K → oAt o (way m h k) ≠ none := by
  obtain ⟨n, hn, e⟩ := hm.meets h hj
  have at_ : way m h (off m (SetTable.bits h % (m + 1)) (SetTable.bits h) n) = j := (congrArg SetTable.Probe.j (nth_off m n _ _)).trans (by rw [itL_run]; exact e)
  obtain ⟨K, k1, k2, k3⟩ := st_least (p := fun k => oAt o (way m h k) = none) _ (show oAt o (way m h (off m (SetTable.bits h % (m + 1)) (SetTable.bits h) n)) = none by rw [at_, hf])
  have ht : SetTable.turns m = m + 15 := rfl
  refine ⟨K, free_spec m o (SetTable.turns m) n _ _ K (by omega) k1 (fun k hk => Option.isNone_eq_false_iff.mpr (Option.isSome_iff_ne_none.mpr (k3 k hk))) ?_, k2, k3⟩
  rw [show oAt o (way m h K) = none from k2]
  rfl
theorem seat_next {m : Nat} (hm : Msk m) {d : List Int} {o : Array (Option Nat)} (W : Own m d o) (hl : d.length ≤ m) (h : Int) :
    ∃ j, SetTable.layClean.free m o (SetTable.turns m) (SetTable.bits h % (m + 1)) (SetTable.bits h) = some j ∧ Own m (d ++ [h]) (o.setIfInBounds j (some d.length)) := by
  obtain ⟨w1, w2, w3, ps, w4, w5⟩ := W
  obtain ⟨x, hx, nx⟩ := st_missing ps (m + 1) (by omega)
  have fx : oAt o x = none := Classical.byContradiction fun c => nx (w5 x (by omega) c)
  obtain ⟨K, e1, e2, e3⟩ := seat_free hm o h (Nat.le_of_lt_succ hx) fx
  have le := way_in m h K
  generalize ej : way m h K = j at e1 e2 le
  have new := oAt_set_self (some d.length) (show j < o.size by omega)
  have old : ∀ i, i ≠ j → oAt (o.setIfInBounds j (some d.length)) i = oAt o i := fun i c => oAt_set_ne _ c
  have up : ∀ i, oAt o i ≠ none → oAt (o.setIfInBounds j (some d.length)) i ≠ none := fun i c => by
    rw [old i (fun z => c (by rw [z]; exact e2))]
    exact c
  refine ⟨j, e1, ⟨by simp [w1], fun i k hi e => ?_, fun k hk => ?_, j :: ps, by simp [w4], fun i hi e => ?_⟩⟩
  · by_cases c : i = j
    · rw [c, new] at e
      cases e
      exact ⟨h, K, by simp, ej.trans c.symm, fun q hq => up _ (e3 q hq)⟩
    · rw [old i c] at e
      obtain ⟨h', K', a1, a2, a3⟩ := w2 i k hi e
      have lt := (List.getElem?_eq_some_iff.mp a1).1
      exact ⟨h', K', by rw [List.getElem?_append_left lt, a1], a2, fun q hq => up _ (a3 q hq)⟩
  · rcases Nat.lt_or_ge k d.length with c | c
    · obtain ⟨i, hi, e⟩ := w3 k c
      exact ⟨i, hi, by rw [old i (fun z => by rw [z, e2] at e; cases e), e]⟩
    · have : k = d.length := by simp at hk; omega
      subst this
      exact ⟨j, le, new⟩
  · by_cases c : i = j
    · simp [c]
    · rw [old i c] at e
      exact List.mem_cons_of_mem _ (w5 i hi e)
theorem seats {m : Nat} (hm : Msk m) : ∀ (r d : List Int) (o : Array (Option Nat)), Own m d o → d.length + r.length ≤ m →
    ∃ o', r.foldl (stepF m) (some (o, d.length)) = some (o', (d ++ r).length) ∧ Own m (d ++ r) o'
  | [], d, o, W, _ => ⟨o, by simp, by simpa using W⟩
  | h :: r, d, o, W, hl => by
    have hl' : d.length + (r.length + 1) ≤ m := hl
    obtain ⟨j, e, W'⟩ := seat_next hm W (by omega) h
    obtain ⟨o', f, W2⟩ := seats hm r (d ++ [h]) _ W' (by simp; omega)
    refine ⟨o', ?_, by simpa using W2⟩
    have f' : r.foldl (stepF m) (some (o.setIfInBounds j (some d.length), d.length + 1)) = some (o', (d ++ h :: r).length) := by simpa using f
    rw [List.foldl_cons, stepF_some e, f']
theorem clean {m : Nat} (hm : Msk m) {hs : Array Int} (hn : hs.size ≤ m) : ∃ o, SetTable.layClean m hs = some o ∧ Own m hs.toList o := by
  obtain ⟨o, f, W⟩ := seats hm hs.toList [] _ (Own.init m) (by simp; omega)
  refine ⟨o, ?_, W⟩
  rw [layClean_eq]
  exact congrArg (Option.map Prod.fst) f
/-- the table laid anew -/
theorem laid {M : Nat} (t : SetTable) {hs : Array Int} {wanted : Nat} (hw : SetTable.sizeAbove wanted - 1 = M) (hM : Msk M) (hn : hs.size ≤ M) :
    ∃ t' order, t.relaid hs wanted = some (t', order) ∧ order.toList.Perm (List.range hs.size) ∧ Tb t' (order.toList.map fun i => hs.getD i 0) ∧ t'.mask = M ∧ t'.led = t.led ∧ t'.plain = t.plain := by
  obtain ⟨o, e, W⟩ := clean hM hn
  obtain ⟨w1, w2, w3, ps, w4, w5⟩ := W
  have hr : t.relaid hs wanted = some (tabOf t M o, ((liveOf M o).map (·.2)).toArray) := by
    rw [relaid_eq, hw, e]
    rfl
  obtain ⟨r1, r2⟩ := ris_live (fun j => o.getD j none) (List.range (M + 1)) (by unfold Ris; exact List.pairwise_lt_range)
  have r1 : Ris ((liveOf M o).map (·.1)) := r1
  have occ : ∀ {j k}, (j, k) ∈ liveOf M o ↔ j ≤ M ∧ oAt o j = some k := mem_live w1
  have hsl : hs.toList.length = hs.size := rfl
  have len : (liveOf M o).length = hs.size := by
    refine Nat.le_antisymm ?_ ?_
    · have nd : ((liveOf M o).map (·.1)).Nodup := List.Pairwise.imp (fun h => Nat.ne_of_lt h) r1
      have a := nat_nodup_len _ ps nd fun x hx => by
        obtain ⟨⟨y, k⟩, hq, rfl⟩ := List.mem_map.mp hx
        obtain ⟨b1, b2⟩ := occ.1 hq
        exact w5 y b1 (by simp [b2])
      simp only [List.length_map] at a
      omega
    · have b := nat_nodup_len (List.range hs.size) ((liveOf M o).map (·.2)) List.nodup_range fun k hk => by
        obtain ⟨j, b1, b2⟩ := w3 k (List.mem_range.mp hk)
        exact List.mem_map.mpr ⟨(j, k), occ.2 ⟨b1, b2⟩, rfl⟩
      simpa using b
  refine ⟨_, _, hr, ?_, ⟨r1, rfl, by simp [tabOf], hM, fun i h j h1 h2 => ?_⟩, rfl, rfl, rfl⟩
  · refine perm_range hs.size _ (by simpa using len) fun k hk => ?_
    obtain ⟨j, b1, b2⟩ := w3 k hk
    exact List.mem_map.mpr ⟨(j, k), occ.2 ⟨b1, b2⟩, rfl⟩
  · have h1' : (((liveOf M o).map (·.2)).map fun i => hs.getD i 0)[i]? = some h := h1
    have h2' : ((liveOf M o).map (·.1))[i]? = some j := h2
    obtain ⟨⟨j', k⟩, hq, rfl⟩ := Option.map_eq_some_iff.mp (List.getElem?_map ▸ h2')
    simp only [List.getElem?_map, hq, Option.map_some, Option.some.injEq] at h1'
    obtain ⟨b1, b2⟩ := occ.1 (List.mem_of_getElem? hq)
    obtain ⟨h0, K, a1, a2, a3⟩ := w2 j' k b1 b2
    have e0 : h0 = h := by
      rw [← h1', Array.getD_eq_getD_getElem?, ← Array.getElem?_toList, a1]
      rfl
    subst e0
    refine ⟨K, a2, fun q hq => ?_⟩
    obtain ⟨k2, z⟩ := Option.ne_none_iff_exists'.mp (a3 q hq)
    exact List.mem_map.mpr ⟨(way M h0 q, k2), occ.2 ⟨way_in M h0 q, z⟩, rfl⟩
end Sy

/-! sets of tuples of texts (or whole numbers), up to 1000 -/
namespace Sy
open PySem PySem.Spec PyProof.Rows L2
/-- the tuple at a has these keys -/
abbrev IsK (P : Program) (w : World) (h : Heap) (k : List Key) (a : Addr) : Prop := IsTupleKey (mixKind P w) h k a
abbrev hK (P : Program) (w : World) (k : List Key) : Int := tupleKeyHash (mixKind P w) k
section
variable {P : Program} {w : World} {A : Around} {E : Value → Shared → Prop} {s : Shared}
def Plainly (v : Value) : Prop := (∀ n, ofAClassStatement n v = pure false) ∧ ∀ n, ∃ b, hashByValue n v = pure b
theorem plainly_key {k : Key} {v : Value} (h : keyIs k v = true) : Plainly v := by
  rcases keyIs_shape h with ⟨i, t, rfl, rfl⟩ | ⟨x, t, rfl, rfl⟩
  · exact ⟨fun n => by cases n <;> rfl, fun n => ⟨true, by cases n <;> rfl⟩⟩
  · exact ⟨fun n => by cases n <;> rfl, fun n => ⟨false, by cases n <;> rfl⟩⟩
theorem plainly_items {k : List Key} {vs : List Value} (h : ItemsAre (mixKind P w) k vs) : ∀ v ∈ vs, Plainly v := by
  induction h with
  | nil => simp
  | cons e _ ih =>
    intro u hu
    rcases List.mem_cons.mp hu with rfl | hu
    · exact plainly_key e
    · exact ih u hu
theorem noClass {k : List Key} {b : Addr} {Q : Bool → Shared → Prop} (hk : IsK P w s.heap k b) (h : Q false s) : wpAny (model P w) A (ofAClassStatement 8 (.ref b)) Q E s := by
  have ty := hk.typeIs
  obtain ⟨o, its, n, ho, _, hd, hi⟩ := hk
  have all := plainly_items hi
  unfold ofAClassStatement
  refine wpAny_bind (wpAny_typeOf ty ?_)
  dsimp only
  simp only [show (("tuple" : String) == "tuple") = true by decide, if_true, Bool.not_true, Bool.false_eq_true, if_false]
  try refine wpAny_bind (wpAny_pure ?_)
  try simp only [Bool.not_true, Bool.false_eq_true, if_false]
  show wpAny _ _ (seqItems? (.ref b) >>= _) _ _ s
  refine wpAny_bind (wpAny_seqItems ho hd ?_)
  dsimp only
  refine wpAny_bind ?_
  show wpAny _ _ (forIn its _ _) _ _ s
  rw [← Array.forIn_toList]
  refine wpAny_forIn_list _ (fun r z s' => z.1 = none ∧ s' = s ∧ ∀ v ∈ r, Plainly v) _ (fun v r z s' hz => ?_) (fun z s' hz => ?_) _ _ ⟨rfl, rfl, all⟩
  · obtain ⟨_, rfl, al⟩ := hz
    rw [(al v (by simp)).1]
    refine wpAny_bind (wpAny_pure ?_)
    simp only [Bool.false_eq_true, if_false]
    exact wpAny_pure ⟨rfl, rfl, fun u hu => al u (by simp [hu])⟩
  · obtain ⟨z1, z2⟩ := z
    obtain ⟨e, rfl, _⟩ := hz
    cases e
    exact wpAny_pure h
theorem hashByV {k : List Key} {b : Addr} {Q : Bool → Shared → Prop} (hk : IsK P w s.heap k b) (h : ∀ c, Q c s) : wpAny (model P w) A (hashByValue 8 (.ref b)) Q E s := by
  have ty := hk.typeIs
  obtain ⟨o, its, n, ho, _, hd, hi⟩ := hk
  have all := plainly_items hi
  unfold hashByValue
  refine wpAny_bind (wpAny_specialOf ty F.slot_tuple_hash.lookup ?_)
  show wpAny _ _ (seqItems? (.ref b) >>= _) _ _ s
  refine wpAny_bind (wpAny_seqItems ho hd ?_)
  refine wpAny_bind ?_
  show wpAny _ _ (forIn its _ _) _ _ s
  rw [← Array.forIn_toList]
  refine wpAny_forIn_list _ (fun r z s' => z.1 = none ∧ s' = s ∧ ∀ v ∈ r, Plainly v) _ (fun v r z s' hz => ?_) (fun z s' hz => ?_) _ _ ⟨rfl, rfl, all⟩
  · obtain ⟨_, rfl, al⟩ := hz
    obtain ⟨c, hc⟩ := (al v (by simp)).2 7
    rw [hc]
    refine wpAny_bind (wpAny_pure ?_)
    cases c
    · simp only [Bool.not_false, if_true]
      exact wpAny_pure (wpAny_pure (h false))
    · simp only [Bool.not_true, Bool.false_eq_true, if_false]
      exact wpAny_pure ⟨rfl, rfl, fun u hu => al u (by simp [hu])⟩
  · obtain ⟨z1, z2⟩ := z
    obtain ⟨e, rfl, _⟩ := hz
    cases e
    exact wpAny_pure (h true)
/-- such a search shows nothing -/
theorem unseen {k : List Key} {b : Addr} {Q : Bool → Shared → Prop} (hk : IsK P w s.heap k b) {ys : List Value} (hy : ∀ y ∈ ys, ∃ k' c, y = Value.ref c ∧ IsK P w s.heap k' c) (h : Q false s) : wpAny (model P w) A (searchCouldBeSeen (.ref b) ys) Q E s := by
  unfold searchCouldBeSeen
  refine wpAny_bind (wpAny_forIn_list _ (fun r z s' => z.1 = none ∧ s' = s ∧ ∀ y ∈ r, ∃ k' c, y = Value.ref c ∧ IsK P w s.heap k' c) _ (fun v r z s' hz => ?_) (fun z s' hz => ?_) _ _ ⟨rfl, rfl, hy⟩)
  · obtain ⟨_, rfl, al⟩ := hz
    obtain ⟨k', c, rfl, hc⟩ := al v (by simp)
    have al' : ∀ y ∈ r, ∃ k' c, y = Value.ref c ∧ IsK P w s'.heap k' c := fun u hu => al u (by simp [hu])
    dsimp only
    by_cases same : (b == c || (carriedByValue (.ref b) && carriedByValue (.ref c))) = true
    · exact wp_if_pos same (wpAny_pure ⟨rfl, rfl, al'⟩)
    · refine wp_if_neg same (wpAny_bind (wpAny_eqIsQuiet_tuple hk ?_))
      simp only [Bool.not_true, Bool.false_eq_true, if_false]
      refine wpAny_bind (wpAny_eqIsQuiet_tuple hc ?_)
      simp only [Bool.not_true, Bool.false_eq_true, if_false]
      refine wpAny_bind (noClass hk ?_)
      simp only [Bool.false_eq_true, if_false]
      refine wpAny_bind (noClass hc ?_)
      simp only [Bool.false_eq_true, if_false]
      exact wpAny_pure ⟨rfl, rfl, al'⟩
  · obtain ⟨z1, z2⟩ := z
    obtain ⟨e, rfl, _⟩ := hz
    cases e
    exact wpAny_pure h
def rowK (P : Program) (w : World) (p : Addr × List Key) : Int × Value := (hK P w p.2, .ref p.1)
abbrev hsK (P : Program) (w : World) (L : List (Addr × List Key)) : List Int := L.map fun p => hK P w p.2
/-- the set at a holds these tuples, in its table's order -/
structure Kp (P : Program) (w : World) (h : Heap) (a : Addr) (L : List (Addr × List Key)) (es : Array (Int × Value)) (ep : Nat) (t : SetTable) : Prop where
  ob : ∃ o, h.get? a = some o ∧ o.ExactSet ∧ o.data = .set es ep t
  rows : es.toList = L.map (rowK P w)
  tab : Tb t (hsK P w L)
  nd : (L.map Prod.snd).Nodup
  tup : ∀ p ∈ L, IsK P w h p.2 p.1
  led : w.params.followText "set-order" = true ∨ t.led = true
  room : L.length * 5 < t.mask * 3
  few : L.length ≤ 1000
  mask : t.mask ≤ 8191
variable {a : Addr} {L : List (Addr × List Key)} {es : Array (Int × Value)} {ep : Nat} {t : SetTable}
theorem rows_size (hr : es.toList = L.map (rowK P w)) : es.size = L.length := by
  have := congrArg List.length hr
  simpa using this
theorem Tb.fits {n : Nat} {hs : List Int} (T : Tb t hs) (hn : hs.length = n) (hm : n ≤ t.mask) : t.fits n = true := by
  have h1 := T.many
  unfold SetTable.fits SetTable.fill
  rw [T.none]
  simp
  omega
theorem Kp.fits (R : Kp P w s.heap a L es ep t) : t.fits es.size = true := by
  have := R.room
  exact R.tab.fits (by rw [List.length_map, rows_size R.rows]) (by rw [rows_size R.rows]; omega)
theorem rowK_at (hr : es.toList = L.map (rowK P w)) {i : Nat} {p : Addr × List Key} (h : L[i]? = some p) : es[i]? = some (rowK P w p) := by
  rw [← Array.getElem?_toList, hr, List.getElem?_map, h]
  rfl
theorem nth_dummy (m : Nat) : ∀ (n : Nat) (p : SetTable.Probe), p.dummy = none → (nth m p n).dummy = none
  | 0, _, h => h
  | n + 1, p, h => nth_dummy m n _ (by unfold adv; split <;> exact h)
abbrev st0 (m : Nat) (h : Int) : SetTable.Probe := runAt m (SetTable.bits h % (m + 1)) (SetTable.bits h)
/-- the search, from the c-th step of the way on -/
theorem look (R : Kp P w s.heap a L es ep t) {x : Addr} {k : List Key} (hx : IsK P w s.heap k x) (hu : A.units < cLine) {K : Nat} (hf : K < 10 * SetTable.turns t.mask)
    (free : way t.mask (hK P w k) K ∉ t.place.toList) (taken : ∀ c, c < K → way t.mask (hK P w k) c ∈ t.place.toList) {Q : SetFound → Shared → Prop}
    (hin : k ∈ L.map Prod.snd → Q (.there none) s) (hout : k ∉ L.map Prod.snd → Q (.free (way t.mask (hK P w k) K) false) s) :
    ∀ (f c : Nat) (stand : Option SetTable.Probe), stand.getD (t.probeStart (hK P w k)) = nth t.mask (st0 t.mask (hK P w k)) c → c ≤ K → K - c < f →
      (∀ (i : Nat) p, L[i]? = some p → p.2 = k → ∃ q, c ≤ q ∧ q < K ∧ t.place.toList[i]? = some (way t.mask (hK P w k) q)) →
      wpAny (model P w) A (setSearchFrom a (.ref x) (hK P w k) true f stand) Q E s := by
  intro f
  induction f with
  | zero => intro c _ _ _ z; exact absurd z (Nat.not_lt_zero _)
  | succ f ih =>
    intro c stand hst hc hl here
    obtain ⟨o, ho, hex, hd⟩ := R.ob
    have fit := R.fits
    have rat : ∀ {i : Nat} {p : Addr × List Key}, L[i]? = some p → es[i]? = some (rowK P w p) := fun h => rowK_at R.rows h
    have gw : ¬ t.gaveWay = true := by unfold SetTable.gaveWay; rw [R.tab.msk.odd]; decide
    rw [setSearchFrom_succ]
    refine wpAny_bind (wpAny_setState_of ho hd fit ?_)
    dsimp only
    refine wp_if_neg gw ?_
    try refine wpAny_bind (wpAny_pure ?_)
    have shift : ∀ q, nth t.mask (nth t.mask (st0 t.mask (hK P w k)) c) q = nth t.mask (st0 t.mask (hK P w k)) (c + q) := fun q => (nth_add ..).symm
    have shj : ∀ q, (nth t.mask (nth t.mask (st0 t.mask (hK P w k)) c) q).j = way t.mask (hK P w k) (c + q) := fun q => congrArg SetTable.Probe.j (shift q)
    have hcK : c + (K - c) = K := by omega
    have spec := go_spec t R.tab.ris R.tab.none (fun i => (es[i]?.map (·.1)).getD 0) (hK P w k) (10 * SetTable.turns t.mask) (K - c) (nth t.mask (st0 t.mask (hK P w k)) c) (nth_dummy _ _ _ rfl) (by omega)
      (fun q hq => by rw [shj]; exact taken _ (by omega)) (by rw [shj, hcK]; exact free)
    have hash_ : ∀ {i : Nat} {p : Addr × List Key}, L[i]? = some p → (es[i]?.map (·.1)).getD 0 = hK P w p.2 := fun h => by rw [rat h]; rfl
    rcases spec with ⟨q, i, hq, hi, hh, no, go⟩ | ⟨no, go⟩
    · rw [shj] at hi
      have len : t.place.toList.length = L.length := by have := R.tab.many; rw [Array.length_toList, this, List.length_map]
      obtain ⟨p, hp⟩ : ∃ p, L[i]? = some p := ⟨L[i]'(by have := (List.getElem?_eq_some_iff.mp hi).1; omega), List.getElem?_eq_getElem _⟩
      have pin : p ∈ L := List.mem_of_getElem? hp
      have ptup := R.tup p pin
      have met : t.probe (fun i => (es[i]?.map (·.1)).getD 0) (hK P w k) (stand.getD (t.probeStart (hK P w k))) = some (.candidate (way t.mask (hK P w k) (c + q)) i (nth t.mask (st0 t.mask (hK P w k)) (c + (q + 1)))) := by
        rw [hst, ← shj, ← shift]
        exact go
      rw [met]
      dsimp only
      have on : wpAny (model P w) A (searchRest a (.ref x) (hK P w k) true f es t (way t.mask (hK P w k) (c + q)) i (nth t.mask (st0 t.mask (hK P w k)) (c + (q + 1)))) Q E s := by
        unfold searchRest
        rw [rat hp]
        unfold rowK
        dsimp only
        refine wpAny_bind (wpAny_holding (wpAny_eqBool_tuple hu ptup hx ?_))
        refine wpAny_bind (wpAny_setState_of ho hd fit ?_)
        dsimp only
        by_cases e : p.2 = k
        · exact wp_if_pos (by simp [e]) (wpAny_pure (hin (List.mem_map.mpr ⟨p, pin, e⟩)))
        · refine wp_if_neg (by simp [e]) ?_
          try refine wpAny_bind (wpAny_pure ?_)
          rw [sameMem]
          dsimp only
          have live := slot_live R.tab.ris hi
          simp only [if_true, live, rat hp, rowK]
          refine wpAny_bind (wpAny_isSame_ref_self (wpAny_bind (wpAny_pure ?_)))
          simp only [if_true]
          refine wp_if_neg (by simp [e]) ?_
          refine ih (c + (q + 1)) _ rfl (by omega) (by omega) fun i0 p0 h0 e0 => ?_
          obtain ⟨z, z1, z2, z3⟩ := here i0 p0 h0 e0
          refine ⟨z, Classical.byContradiction fun lt => ?_, z2, z3⟩
          rcases Nat.lt_or_ge z (c + q) with y | y
          · exact no (z - c) i0 (by omega) (by rw [shj, show c + (z - c) = z by omega]; exact z3) ((hash_ h0).trans (by rw [e0]))
          · obtain rfl : z = c + q := by omega
            have e2 := (slot_live R.tab.ris z3).symm.trans live
            injection e2 with e2
            subst e2
            rw [hp] at h0
            exact e (by rw [← e0, Option.some.inj h0])
      by_cases hl : t.led = true
      · refine wp_if_neg (by simp [hl]) ?_
        try refine wpAny_bind (wpAny_pure ?_)
        exact on
      · refine wp_if_pos (by simp [hl]) (wpAny_bind (unseen hx (fun y hy => ?_) ?_))
        · obtain ⟨e, he, rfl⟩ := List.mem_map.mp hy
          have he2 : e ∈ es.toList := by
            have : e ∈ es ∧ e.1 = hK P w k := by simpa using he
            simpa using this.1
          rw [R.rows] at he2
          obtain ⟨p2, hp2, rfl⟩ := List.mem_map.mp he2
          exact ⟨p2.2, p2.1, rfl, R.tup p2 hp2⟩
        · refine wp_if_neg (by decide) ?_
          try refine wpAny_bind (wpAny_pure ?_)
          exact on
    · have met : t.probe (fun i => (es[i]?.map (·.1)).getD 0) (hK P w k) (stand.getD (t.probeStart (hK P w k))) = some (.empty (way t.mask (hK P w k) K) none) := by
        have e : way t.mask (hK P w k) K = (nth t.mask (nth t.mask (st0 t.mask (hK P w k)) c) (K - c)).j := by rw [shj, hcK]
        rw [hst, e]
        exact go
      rw [met]
      dsimp only
      refine wpAny_pure (hout fun hm => ?_)
      obtain ⟨p0, h0, e0⟩ := List.mem_map.mp hm
      obtain ⟨i0, hi0⟩ := List.getElem?_of_mem h0
      obtain ⟨z, z1, z2, z3⟩ := here i0 p0 hi0 e0
      exact no (z - c) i0 (by omega) (by rw [shj, show c + (z - c) = z by omega]; exact z3) ((hash_ hi0).trans (by rw [e0]))
theorem look_at (R : Kp P w s.heap a L es ep t) {x : Addr} {k : List Key} (hx : IsK P w s.heap k x) (hu : A.units < cLine) {Q : SetFound → Shared → Prop} (hin : k ∈ L.map Prod.snd → Q (.there none) s)
    (hout : ∀ K, k ∉ L.map Prod.snd → way t.mask (hK P w k) K ∉ t.place.toList → (∀ c, c < K → way t.mask (hK P w k) c ∈ t.place.toList) → Q (.free (way t.mask (hK P w k) K) false) s) :
    wpAny (model P w) A (setSearch a (.ref x) (hK P w k) true) Q E s := by
  have room := R.room
  obtain ⟨K, hf, free, taken⟩ := R.tab.first (by rw [List.length_map]; omega) (hK P w k)
  have few : K < 100000 := by
    have := R.mask
    have : SetTable.turns t.mask = t.mask + 15 := rfl
    omega
  unfold setSearch
  refine look R hx hu hf free taken hin (fun no => hout K no free taken) 100000 0 none rfl (Nat.zero_le _) (by omega) fun i p hp e => ?_
  have h1 : (hsK P w L)[i]? = some (hK P w k) := by rw [List.getElem?_map, hp, ← e]; rfl
  have h2 : i < t.place.toList.length := by
    have := (List.getElem?_eq_some_iff.mp h1).1
    rw [Array.length_toList, R.tab.many]
    exact this
  obtain ⟨c, hc, e2⟩ := R.tab.ahead free h1 (List.getElem?_eq_getElem h2)
  exact ⟨c, Nat.zero_le _, hc, by rw [List.getElem?_eq_getElem h2, e2]⟩
end
end Sy

namespace Sy
open PySem PySem.Spec PyProof.Rows L2
section
variable {P : Program} {w : World} {A : Around} {E : Value → Shared → Prop} {s : Shared}
theorem isK_but {h h' : Heap} {k : List Key} {a b : Addr} {o : Obj} {es : Array (Int × Value)} {ep : Nat} {t : SetTable} (x : IsK P w h k b) (ho : h.get? a = some o) (hd : o.data = .set es ep t) (hs : Heap.SameBut a h h') : IsK P w h' k b := by
  obtain ⟨o', its, n, e, c, d, i⟩ := x
  refine ⟨o', its, n, (hs.2 b fun z => ?_).trans e, c, d, i⟩
  rw [z, ho] at e
  cases Option.some.inj e
  rw [hd] at d
  cases d
theorem isK_up {h h' : Heap} {k : List Key} {b : Addr} (x : IsK P w h k b) (hk : ∀ c o, h.get? c = some o → h'.get? c = some o) : IsK P w h' k b := by
  obtain ⟨o, its, n, e, r⟩ := x
  exact ⟨o, its, n, hk b o e, r⟩
theorem put_in {α : Type} (l : List α) (p : Nat) (x : α) : (l.take p ++ x :: l.drop p).Perm (x :: l) := by
  have := List.perm_middle (a := x) (l₁ := l.take p) (l₂ := l.drop p)
  rwa [List.take_append_drop] at this
theorem pick_all {α : Type} (l : List α) : (List.range l.length).filterMap (fun i => l[i]?) = l := by
  have go : ∀ n, n ≤ l.length → (List.range n).filterMap (fun i => l[i]?) = l.take n := by
    intro n
    induction n with
    | zero => intro _; simp
    | succ n ih =>
      intro hn
      have e : l[n]? = some l[n] := List.getElem?_eq_getElem hn
      rw [List.range_succ, List.filterMap_append, ih (Nat.le_of_lt hn), List.filterMap_cons_some e, List.take_add_one, e]
      rfl
  rw [go _ (Nat.le_refl _), List.take_length]
theorem ordered (L : List (Addr × List Key)) (es : Array (Int × Value)) (order : Array Nat) (hr : es.toList = L.map (rowK P w)) (hp : order.toList.Perm (List.range L.length)) :
    ∃ L2, (order.filterMap (es[·]?)).toList = L2.map (rowK P w) ∧ L2.Perm L ∧ hsK P w L2 = order.toList.map fun i => (es.map (·.1)).getD i 0 := by
  refine ⟨order.toList.filterMap fun i => L[i]?, ?_, ?_, ?_⟩
  · rw [Array.toList_filterMap, List.map_filterMap]
    congr 1
    funext i
    rw [← Array.getElem?_toList, hr, List.getElem?_map]
  · have := hp.filterMap fun i => L[i]?
    rwa [pick_all] at this
  · have go : ∀ l : List Nat, (∀ i ∈ l, i < L.length) → hsK P w (l.filterMap fun i => L[i]?) = l.map fun i => (es.map (·.1)).getD i 0 := by
      intro l
      induction l with
      | nil => intro _; rfl
      | cons i l ih =>
        intro hl
        have e : L[i]? = some (L[i]'(hl i (by simp))) := List.getElem?_eq_getElem _
        rw [List.filterMap_cons_some e, List.map_cons]
        refine congr (congrArg List.cons ?_) (ih fun j hj => hl j (by simp [hj]))
        rw [Array.getD_eq_getD_getElem?, Array.getElem?_map, rowK_at hr e]
        rfl
    exact go _ fun i hi => List.mem_range.mp (hp.mem_iff.mp hi)
variable {a : Addr} {L : List (Addr × List Key)} {es : Array (Int × Value)} {ep : Nat} {t : SetTable}
/-- the table laid anew, larger -/
theorem relayed {o : Obj} {n : Nat} (ho : s.heap.get? a = some o) (hex : o.ExactSet) (hd : o.data = .set es ep t) (hr : es.toList = L.map (rowK P w)) (hfit : t.fits es.size = true) (hn : L.length = n) (h0 : 0 < n) (few : n ≤ 1000)
    (nd : (L.map Prod.snd).Nodup) (tup : ∀ p ∈ L, IsK P w s.heap p.2 p.1) (ld : w.params.followText "set-order" = true ∨ t.led = true) {Q : Unit → Shared → Prop}
    (hQ : ∀ h' L' es' ep' t', Heap.SameBut a s.heap h' → Kp P w h' a L' es' ep' t' → L'.Perm L → Q () { s with heap := h' }) : wpAny (model P w) A (setRelay a (SetTable.grown n)) Q E s := by
  have hg : SetTable.grown n = n * 4 := by unfold SetTable.grown; rw [if_neg (by omega)]
  obtain ⟨mk, up, dn⟩ := size_up (n := SetTable.grown n) (by omega)
  have hes := rows_size hr
  have hem : (es.map (·.1)).size = n := by rw [Array.size_map, hes, hn]
  obtain ⟨t', order, e, hp, T, em, el, _⟩ := laid t (hs := es.map (·.1)) (wanted := SetTable.grown n) rfl mk (by omega)
  rw [hem, ← hn] at hp
  obtain ⟨L2, r1, r2, r3⟩ := ordered L es order hr hp
  rw [← r3] at T
  have l2 : L2.length = n := r2.length_eq.trans hn
  have e2 := rows_size r1
  rw [setRelay_eq]
  refine wpAny_bind (wpAny_setState_of ho hd hfit ?_)
  dsimp only
  refine wp_if_neg (by rw [sizeLine_eq]; omega) ?_
  try refine wpAny_bind (wpAny_pure ?_)
  rw [e]
  dsimp only
  refine wpAny_bind (wp_if_neg (by rw [e2, hes, r2.length_eq]; simp) ?_)
  try refine wpAny_bind (wpAny_pure ?_)
  refine wpAny_pure ?_
  dsimp only
  refine wpAny_storeSet_of ho hd ?_ (by rw [e2, l2, sizeLine_eq]; omega)
  have but : Heap.SameBut a s.heap (s.heap.update a (Obj.putSet (order.filterMap (es[·]?)) t')) := Heap.SameBut.update ..
  refine hQ _ L2 _ _ t' but ⟨⟨_, store_at ho hd, ⟨hex.1, hex.2.1, hex.2.2⟩, rfl⟩, r1, T, (r2.map _).nodup_iff.mpr nd, fun p hp => isK_but (tup p (r2.mem_iff.mp hp)) ho hd but, by rw [el]; exact ld, by omega, by omega, by omega⟩ r2
/-- one tuple put in -/
theorem put_tup (R : Kp P w s.heap a L es ep t) {x : Addr} {k : List Key} (hx : IsK P w s.heap k x) (hu : A.units < cLine) (few : L.length + 1 ≤ 1000) {Q : Bool → Shared → Prop}
    (hQ : ∀ b h' L' es' ep' t', Heap.SameBut a s.heap h' → Kp P w h' a L' es' ep' t' → (k ∈ L.map Prod.snd → L' = L) → (k ∉ L.map Prod.snd → L'.Perm ((x, k) :: L)) → Q b { s with heap := h' }) :
    wpAny (model P w) A (setAddHashed a (.ref x) (hK P w k)) Q E s := by
  obtain ⟨o, ho, hex, hd⟩ := R.ob
  have fit := R.fits
  have hes := rows_size R.rows
  have room := R.room
  have hex' : o.ExactSet := hex
  unfold setAddHashed
  refine wpAny_holding ?_
  rw [show (100000 : Nat) = 99999 + 1 from rfl, setAddHashedIn_succ]
  refine wpAny_bind (wpAny_setState_of ho hd fit ?_)
  dsimp only
  refine wp_if_neg (by simp [byScan, Value.scannable]) ?_
  try refine wpAny_bind (wpAny_pure ?_)
  refine wpAny_bind (look_at R hx hu (fun hm => ?_) fun K hm free taken => ?_)
  · exact wpAny_pure (hQ false s.heap L es ep t (Heap.SameBut.refl a s.heap) R (fun _ => rfl) fun z => absurd hm z)
  · dsimp only
    refine wpAny_bind (wpAny_setState_of ho hd fit ?_)
    dsimp only
    obtain ⟨q2, q3, q9⟩ := R.tab.put free taken
    have pm := put_in L (SetTable.below t.place (way t.mask (hK P w k) K)) (x, k)
    rw [List.length_map] at q9 q2
    have hh : hsK P w (L.take (SetTable.below t.place (way t.mask (hK P w k) K)) ++ (x, k) :: L.drop (SetTable.below t.place (way t.mask (hK P w k) K))) = (hsK P w L).take (SetTable.below t.place (way t.mask (hK P w k) K)) ++ hK P w k :: (hsK P w L).drop (SetTable.below t.place (way t.mask (hK P w k) K)) := by
      simp [List.map_take, List.map_drop]
    rw [← hh] at q3
    have in1 : (SetTable.insertAt es (SetTable.below t.place (way t.mask (hK P w k) K)) (rowK P w (x, k))).toList = (L.take (SetTable.below t.place (way t.mask (hK P w k) K)) ++ (x, k) :: L.drop (SetTable.below t.place (way t.mask (hK P w k) K))).map (rowK P w) := by
      rw [SetTable.toList_insertAt, R.rows, List.map_append, List.map_cons, List.map_take, List.map_drop]
    have p1 : (t.put (way t.mask (hK P w k) K)).2 = SetTable.below t.place (way t.mask (hK P w k) K) := rfl
    have p2 : (t.put (way t.mask (hK P w k) K)).1.mask = t.mask := rfl
    have p3 : (t.put (way t.mask (hK P w k) K)).1.led = t.led := rfl
    have p4 := put_dm R.tab.none (way t.mask (hK P w k) K)
    generalize t.put (way t.mask (hK P w k) K) = pt at q3 q9 p1 p2 p3 p4 ⊢
    obtain ⟨t1, p⟩ := pt
    dsimp only at q3 q9 p1 p2 p3 p4 ⊢
    subst p1
    generalize L.take (SetTable.below t.place (way t.mask (hK P w k) K)) ++ (x, k) :: L.drop (SetTable.below t.place (way t.mask (hK P w k) K)) = L1 at pm q3 in1 ⊢
    have in1' : (SetTable.insertAt es (SetTable.below t.place (way t.mask (hK P w k) K)) (hK P w k, Value.ref x)).toList = L1.map (rowK P w) := in1
    generalize SetTable.insertAt es (SetTable.below t.place (way t.mask (hK P w k) K)) (hK P w k, Value.ref x) = es1 at in1' ⊢
    have l1 : L1.length = L.length + 1 := pm.length_eq
    have he1 := rows_size in1'
    have nd1 : (L1.map Prod.snd).Nodup := (pm.map Prod.snd).nodup_iff.mpr (List.nodup_cons.mpr ⟨hm, R.nd⟩)
    -- whether the table is by value or not tells nothing
    have fin : ∀ t2 : SetTable, t2.place = t1.place → t2.dummies = t1.dummies → t2.mask = t1.mask → t2.led = t1.led → wpAny (model P w) A (do
        storeSet a es1 t2
        if (!false && t2.tooFull) = true then do
            setRelay a (SetTable.grown (es.size + 1))
            pure true
          else pure true) Q E s := fun t2 z1 z2 z3 z4 => by
      have T2 : Tb t2 (hsK P w L1) := ⟨by rw [z1]; exact q3.ris, by rw [z2]; exact q3.none, by rw [z1]; exact q3.many, by rw [z3]; exact q3.msk, fun i h j a1 a2 => by
        rw [z1] at a2 ⊢
        rw [z3]
        exact q3.found i h j a1 a2⟩
      have fill2 : t2.fill = L.length + 1 := by
        rw [← q9]
        unfold SetTable.fill
        rw [z1, z2]
      have m2 : t2.mask = t.mask := z3.trans p2
      have mx := R.mask
      refine wpAny_bind (wpAny_storeSet_of ho hd ?_ (by rw [he1, l1, sizeLine_eq]; omega))
      have but : Heap.SameBut a s.heap (s.heap.update a (Obj.putSet es1 t2)) := Heap.SameBut.update ..
      have ho1 := store_at (es' := es1) (t' := t2) ho hd
      generalize s.heap.update a (Obj.putSet es1 t2) = h1 at but ho1 ⊢
      have tup1 : ∀ p ∈ L1, IsK P w h1 p.2 p.1 := fun p hp => by
        rcases List.mem_cons.mp (pm.mem_iff.mp hp) with rfl | hp
        · exact isK_but hx ho hd but
        · exact isK_but (R.tup p hp) ho hd but
      have ld2 : w.params.followText "set-order" = true ∨ t2.led = true := by rw [z4, p3]; exact R.led
      have full : t2.tooFull = decide (t2.fill * 5 ≥ t2.mask * 3) := rfl
      have hex2 : ({ o with data := .set es1 (ep + 1) t2 } : Obj).ExactSet := ⟨hex.1, hex.2.1, hex.2.2⟩
      by_cases c : t2.fill * 5 ≥ t2.mask * 3
      · refine wp_if_pos (by simp [full, c]) (wpAny_bind ?_)
        rw [hes]
        refine relayed (s := { s with heap := h1 }) ho1 hex2 rfl in1' (T2.fits (by rw [List.length_map, he1]) (by rw [he1, l1, m2]; omega)) l1 (Nat.succ_pos _) few nd1 tup1 ld2 fun h2 L2 es2 ep2 t3 but2 R2 pm2 => ?_
        exact wpAny_pure (hQ true h2 L2 es2 ep2 t3 (but.trans but2) R2 (fun z => absurd z hm) fun _ => pm2.trans pm)
      · refine wp_if_neg (by simp [full]; omega) (wpAny_pure (hQ true h1 L1 es1 (ep + 1) t2 but ⟨⟨_, ho1, hex2, rfl⟩, in1', T2, nd1, tup1, ld2, by rw [l1]; omega, by omega, by omega⟩ (fun z => absurd z hm) fun _ => pm))
    by_cases pl : t1.plain = true
    · first
        | refine wp_if_pos pl (wpAny_bind (hashByV hx fun c => ?_))
        | (refine wpAny_bind (wp_if_pos pl (hashByV hx fun c => ?_)))
      cases c
      · simp only [Bool.false_eq_true, if_false]
        exact fin _ rfl rfl rfl rfl
      · simp only [if_true]
        exact fin _ rfl rfl rfl rfl
    · first
        | refine wp_if_neg pl (wpAny_bind (wpAny_pure ?_))
        | (refine wpAny_bind (wp_if_neg pl (wpAny_pure ?_)))
      simp only [if_true]
      exact fin _ rfl rfl rfl rfl
end
end Sy

/-! sorted(set(x)), x a list or tuple of whole numbers or texts -/
namespace Sy
open PySem PySem.Spec PyProof.Rows L2
section
variable {prog : Program} {w : World} {A : Around} {E : Value → Shared → Prop} {s : Shared} {κ : Type} [DecidableEq κ] {knd : PySem.KeyKind prog w κ}
/-- a set whose table can be walked: m tells its members, n their number -/
def WSet (knd : PySem.KeyKind prog w κ) (h : Heap) (a : Addr) (m : κ → Bool) (n : Nat) : Prop := ∃ (ob : Obj) (en : Array (Int × Value)) (ep : Nat) (tb : SetTable), h.get? a = some ob ∧ ob.ExactSet ∧ ob.data = .set en ep tb ∧ ElemsOf knd en.toList ∧
  (∀ x, m x = true ↔ ∃ e ∈ en.toList, knd.is x e.2 = true) ∧ en.size < scanBound ∧ tb.fits en.size = true ∧ en.size = n ∧ Ris tb.place.toList ∧ (w.params.followText "set-order" = true ∨ tb.led = true)
theorem WSet.at {h h' : Heap} {a : Addr} {m : κ → Bool} {n : Nat} (R : WSet knd h a m n) (k : ∀ o, h.get? a = some o → h'.get? a = some o) : WSet knd h' a m n := by
  obtain ⟨ob, en, ep, tb, ho, r⟩ := R
  exact ⟨ob, en, ep, tb, k ob ho, r⟩
theorem WSet.congr {h : Heap} {a : Addr} {m m' : κ → Bool} {n n' : Nat} (R : WSet knd h a m n) (e : ∀ x, m' x = m x) (e2 : n' = n) : WSet knd h a m' n' := by
  rw [show m' = m from funext e, e2]
  exact R
end
section
variable {κ : Type} [DecidableEq κ]
theorem metX_app : ∀ (l acc : List κ) (x : κ), metX acc (l ++ [x]) = (if x ∈ metX acc l then metX acc l else metX acc l ++ [x])
  | [], acc, x => rfl
  | y :: l, acc, x => metX_app l _ x
theorem metX_len : ∀ (l acc : List κ), (metX acc l).length ≤ acc.length + l.length
  | [], acc => Nat.le_refl _
  | y :: l, acc => by
    refine Nat.le_trans (metX_len l _) ?_
    split
    · rw [List.length_cons]; omega
    · simp only [List.length_append, List.length_cons, List.length_nil]; omega
/-- as many, all there, none twice -/
theorem perm_full : ∀ {A B : List κ}, A.Nodup → (∀ x ∈ A, x ∈ B) → B.length ≤ A.length → B.Perm A
  | [], B, _, _, h => by
    rw [List.length_eq_zero_iff.mp (Nat.le_zero.mp h)]
  | a :: A, B, nd, sub, h => by
    have ha := sub a List.mem_cons_self
    have h2 := List.nodup_cons.mp nd
    refine (List.perm_cons_erase ha).trans (List.Perm.cons a (perm_full h2.2 (fun x hx => (List.mem_erase_of_ne fun e => h2.1 (by rw [← e]; exact hx)).mpr (sub x (List.mem_cons_of_mem _ hx))) ?_))
    rw [List.length_erase_of_mem ha]
    rw [List.length_cons] at h
    omega
end
section
variable {prog : Program} {w : World} {A : Around} {R : Result → Shared → Prop} {I : Addr} {fp wr : List Addr} {G : Array GenState → Array GenState → Prop} {n : Nat} {P : Nat → Value → Prop} {St : Nat → Shared → Prop} {κ : Type} [DecidableEq κ] {knd : PySem.KeyKind prog w κ}
/-- the members while the first i keys were put in -/
def InX (knd : PySem.KeyKind prog w κ) (h : Heap) (S : Addr) (xs : List κ) (i : Nat) : Prop := WSet knd h S (fun k => decide (k ∈ metX [] (xs.take i))) (metX [] (xs.take i)).length
theorem InX.next {h : Heap} {S : Addr} {xs : List κ} {i : Nat} {x : κ} (hx : xs[i]? = some x)
    (q : WSet knd h S (fun j => decide (j ∈ metX [] (xs.take i)) || decide (j = x)) (if decide (x ∈ metX [] (xs.take i)) = true then (metX [] (xs.take i)).length else (metX [] (xs.take i)).length + 1)) : InX knd h S xs (i + 1) := by
  have e : xs.take (i + 1) = xs.take i ++ [x] := by rw [List.take_add_one, hx]; rfl
  unfold InX
  rw [e, metX_app]
  refine q.congr (fun k => ?_) ?_
  · by_cases hm : x ∈ metX [] (xs.take i)
    · rw [if_pos hm]
      by_cases hk : k = x
      · subst hk; simp [hm]
      · simp [hk]
    · rw [if_neg hm]
      simp
  · by_cases hm : x ∈ metX [] (xs.take i)
    · simp [hm]
    · simp [hm]
end
end Sy

namespace Sy
open PySem PySem.Spec PyProof.Rows L2
section
variable {prog : Program} {w : World} {A : Around} {E : Value → Shared → Prop} {s : Shared}
abbrev freshS (w : World) : Obj := { cls := .type "set", dict := none, data := .set #[] 0 (.fresh 0 0 (!w.params.followText "set-order")) }
/-- set(x), x a list or tuple, by what its loop leaves -/
theorem call_set_any {T : String} (hT : T = "list" ∨ T = "tuple") {l : Addr} {items : Array Value} {Q : Value → Shared → Prop} (hh : A.handled = none) {ol : Obj} {nl : Nat} (hol : s.heap.get? l = some ol) (hcl : ol.cls = .type T) (hdl : ol.data = .seq items nl) (Post : Heap → Prop)
    (hloop : ∀ (A' : Around) (s0 : Shared) (I : Addr) (fp wr : List Addr) (G : Array GenState → Array GenState → Prop) (Pv : Nat → Value → Prop) (St : Nat → Shared → Prop) (R : Result → Shared → Prop), A'.handled = none → A'.units ≤ A.units + 3 → WalksS prog w A'.in1 I fp wr G items.size Pv St → s.heap.objs.size ∉ fp → (∀ b ∈ wr, s.heap.objs.size < b) → (∀ i v, Pv i v → items[i]? = some v) → St 0 s0 → s0.heap.get? s.heap.objs.size = some (freshS w) → (∀ b o, s.heap.get? b = some o → s0.heap.get? b = some o) →
      (∀ s', Moved (s.heap.objs.size :: wr) G s0 s' → Post s'.heap → R (.ok (.ret .none)) s') → codeAny (model prog w) A' (.builtin "set.update.loop" ⟨[.ref s.heap.objs.size, .ref I], []⟩) R s0)
    (h : ∀ (h' : Heap) (tk : Nat), Post h' → (∀ b o, s.heap.get? b = some o → h'.get? b = some o) → Q (.ref s.heap.objs.size) { s with heap := h', toks := tk }) :
    wpAny (model prog w) A (call (.type "set") [.ref l]) Q E s := by
  obtain ⟨c, tl, hmro⟩ := PySem.F.called_set.mro
  have hmade := PySem.F.called_set.made
  have hsub := PySem.F.called_set.sub
  refine wpAny_call (codeAny_of_tree ?_)
  show wpAny _ _ (callAny (.type "set") _) _ _ _
  refine wpAny_pure ⟨Code.quiet_builtin _ (by decide +kernel), codeAny_builtin PySem.F.entry_type_call ?_⟩
  rw [Around.under_plain (weight_type_call_type "set" [.ref l] []) rfl]
  have h1 := PySem.F.called_set.notType
  have h2 := PySem.F.called_set.canCreate
  have hct := PySem.F.typeCall_set_1 (.ref l)
  repeat (any_goals (first | assumption | wp_step))
  refine codeAny_mono (code_set_led1 (.ref l) (E := E) (Q₁ := fun obj s₁ => obj = .ref s.heap.objs.size ∧ s₁ = { s with heap := s.heap.push (freshS w) }) ⟨rfl, rfl⟩) fun r s₁ hr => ?_
  cases r with
  | error e => exact hr
  | ok fl =>
    cases fl with
    | ret obj =>
      obtain ⟨rfl, rfl⟩ := hr
      have hS : (s.heap.push (freshS w)).get? s.heap.objs.size = some (freshS w) := Heap.get?_push_size _ rfl
      have hTy : Shared.TypeIs { s with heap := s.heap.push (freshS w) } (.ref s.heap.objs.size) "set" := ⟨_, hS, rfl⟩
      have hli := PySem.F.called_set.init.lookup
      have hbi := PySem.F.called_set.init.bind (.ref s.heap.objs.size)
      repeat (any_goals (first | assumption | wp_step))
      refine codeAny_mono (codeAny_call_builtin (R := wants (fun r s₂ => r = .none ∧ ∃ h' tk, s₂ = { s with heap := h', toks := tk } ∧ Post h' ∧ (∀ b o, s.heap.get? b = some o → h'.get? b = some o)) E) PySem.F.called_set.init.plain PySem.F.entry_set_init (check_set_init_1 hTy ?_)) fun r₂ s₂ hr₂ => ?_
      · obtain ⟨ocls, odict, odata, oslots⟩ := ol
        simp only at hcl hdl
        subst hcl; subst hdl
        have hz : (s.heap.push (freshS w)).objs.size = s.heap.objs.size + 1 := Heap.size_push ..
        have hlS : l < s.heap.objs.size := Heap.lt_size hol
        have hol' := Heap.get?_push_of_some (freshS w) hol
        have hh3 : A.in1.in1.in1.handled = none := by simp [hh]
        have hneI : l ≠ (s.heap.push (freshS w)).objs.size := by rw [hz]; exact Nat.ne_of_lt (Nat.lt_succ_of_lt hlS)
        have hSf : s.heap.objs.size ∉ [(s.heap.push (freshS w)).objs.size, l] := by
          rw [hz]
          simp only [List.mem_cons, List.mem_singleton, List.not_mem_nil, or_false, not_or]
          exact ⟨Nat.ne_of_lt (Nat.lt_succ_self _), Nat.ne_of_gt hlS⟩
        have hwr : ∀ b ∈ [(s.heap.push (freshS w)).objs.size], s.heap.objs.size < b := fun b hb => by
          rw [List.mem_singleton.mp hb, hz]; exact Nat.lt_succ_self _
        have fin : ∀ (G : Array GenState → Array GenState → Prop) (s0 s' : Shared), Moved [s.heap.objs.size, (s.heap.push (freshS w)).objs.size] G s0 s' → Post s'.heap → (∀ g g', G g g' → g' = g) → s0.gens = s.gens → s0.drawn = s.drawn → s0.os = s.os → (∀ b o, s.heap.get? b = some o → s0.heap.get? b = some o) →
            ∃ h' tk, s' = { s with heap := h', toks := tk } ∧ Post h' ∧ (∀ b o, s.heap.get? b = some o → h'.get? b = some o) := fun G s0 s' hm hp hG e1 e2 e3 hk => by
          obtain ⟨h', g', d', tk', os'⟩ := s'
          have eg : g' = s.gens := (hG _ _ hm.gens).trans e1
          have ed : d' = s.drawn := Eq.trans hm.drawn e2
          have eo : os' = s.os := Eq.trans hm.os e3
          subst eg; subst ed; subst eo
          refine ⟨h', tk', rfl, hp, fun b o e => hm.heap b o ?_ (hk b o e)⟩
          have := Heap.lt_size e
          rw [hz]
          simp only [List.mem_cons, List.mem_singleton, List.not_mem_nil, or_false, not_or]
          exact ⟨Nat.ne_of_lt this, Nat.ne_of_lt (Nat.lt_succ_of_lt this)⟩
        rcases hT with rfl | rfl
        · have hsls := PySem.F.sub_list_set
          have hslf := PySem.F.sub_list_frozenset
          have hne : (Value.type "list" == Value.type "dict") = false := by decide
          have hl1 : (s.heap.push (freshS w)).IsList l items := ⟨_, hol', rfl, nl, rfl⟩
          unfold Builtin.«set.__init__» noKeywords Builtin.Frozenset.updateFrom
          generalize hPI : pyIter = PI
          wp_walk
          subst hPI
          refine wpAny_pyIter_list hl1 ?_
          refine wpAny_bind (wpAny_runValue ?_)
          refine hloop _ _ _ _ _ _ _ _ _ (by simp [hh]) ?_ ((Walks.list hh3 _ l hneI items).toS) hSf hwr (fun i v hv => hv) ⟨⟨_, Heap.get?_push_size _ rfl, rfl, rfl⟩, (hl1.push _)⟩ (Heap.get?_push_of_some _ hS) (fun b o e => Heap.get?_push_of_some _ (Heap.get?_push_of_some _ e)) fun s' hm hp => ?_
          · simp only [Around.in1_units]
            omega
          · obtain ⟨h', tk, rfl, q1, q2⟩ := fin _ _ s' hm hp (fun g g' e => e) rfl rfl rfl (fun b o e => Heap.get?_push_of_some _ (Heap.get?_push_of_some _ e))
            show wpAny _ _ _ _ _ _
            refine wpAny_pure ?_
            show wpAny _ _ (ret Value.none) _ _ _
            exact wpAny_pure ⟨rfl, h', tk, rfl, q1, q2⟩
        · have hsls := PySem.F.sub_tuple_set
          have hslf := PySem.F.sub_tuple_frozenset
          have hne : (Value.type "tuple" == Value.type "dict") = false := by decide
          have hl1 : (s.heap.push (freshS w)).IsTuple l items := ⟨_, hol', rfl, nl, rfl⟩
          unfold Builtin.«set.__init__» noKeywords Builtin.Frozenset.updateFrom
          generalize hPI : pyIter = PI
          wp_walk
          subst hPI
          refine wpAny_pyIter_tuple hl1 ?_
          refine wpAny_bind (wpAny_runValue ?_)
          refine hloop _ _ _ _ _ _ _ _ _ (by simp [hh]) ?_ ((Walks.tuple hh3 _ l hneI items).toS) hSf hwr (fun i v hv => hv) ⟨⟨_, Heap.get?_push_size _ rfl, rfl, rfl⟩, (hl1.push _)⟩ (Heap.get?_push_of_some _ hS) (fun b o e => Heap.get?_push_of_some _ (Heap.get?_push_of_some _ e)) fun s' hm hp => ?_
          · simp only [Around.in1_units]
            omega
          · obtain ⟨h', tk, rfl, q1, q2⟩ := fin _ _ s' hm hp (fun g g' e => e) rfl rfl rfl (fun b o e => Heap.get?_push_of_some _ (Heap.get?_push_of_some _ e))
            show wpAny _ _ _ _ _ _
            refine wpAny_pure ?_
            show wpAny _ _ (ret Value.none) _ _ _
            exact wpAny_pure ⟨rfl, h', tk, rfl, q1, q2⟩
      · cases r₂ with
        | error e => exact hr₂
        | ok fl₂ =>
          cases fl₂ with
          | ret r =>
            obtain ⟨rfl, h', tk, rfl, hS', hk'⟩ := hr₂
            repeat (any_goals (first | assumption | wp_step))
            exact h _ _ hS' hk'
          | _ => exact hr₂.elim
    | _ => exact hr.elim
end
end Sy

namespace Sy
open PySem PySem.Spec PyProof.Rows L2
section
variable {prog : Program} {w : World} {A : Around} {E : Value → Shared → Prop} {s : Shared}
/-- sorted(x), by what x gives to a builtin, in whatever order -/
theorem sorted_ofD {l : Addr} {β : Type} (Pv : List Value → List β → Prop) {R : Value → β → Prop} {enc : β → PyData} {Q : Value → Shared → Prop}
    (hcol : ∀ (E' : Value → Shared → Prop) (Q' : List Value → Shared → Prop), (∀ (vs : List Value) (bs : List β) (s1 : Shared), Pv vs bs → (∀ b u, s.heap.get? b = some u → s1.heap.get? b = some u) → s.heap.objs.size ≤ s1.heap.objs.size → s1.gens = s.gens → s1.os = s.os → Q' vs s1) → wpAny (model prog w) A.in1 (collect (.ref l)) Q' E' s)
    (hz : ∀ vs bs, Pv vs bs → bs.length ≤ sizeLine) (e : ∀ vs bs, Pv vs bs → PySem.W.EachIs R vs bs) (er : ∀ vs bs, Pv vs bs → PySem.W.EachIs (fun v b => ∃ as, Reads s.heap v (enc b) as) vs bs) (hal : ∀ vs bs, Pv vs bs → PySem.W.AllAlike (bs.map enc)) (hk : ∀ vs bs, Pv vs bs → SrtOk (bs.map enc)) (hu : ∀ vs bs, Pv vs bs → ∀ b, b ∈ bs → A.units + 2 + (enc b).depth < cLine)
    (h : ∀ (vs : List Value) (bs : List β) (s1 : Shared) (h' : Heap) (d : Addr) (out : List Value), Pv vs bs → PySem.W.EachIs R out (bs.mergeSort (PySem.W.dataLe false enc)) → (∀ b o, s.heap.get? b = some o → h'.get? b = some o) → s.heap.objs.size ≤ d → (∃ n, h'.get? d = some (seqObj "list" out.toArray n)) → s1.gens = s.gens → s1.os = s.os → Q (.ref d) { s1 with heap := h' }) :
    wpAny (model prog w) A (call (.builtin "sorted") [.ref l]) Q E s := by
  refine Calls.call_function_entry kind_sorted plain_sorted entry_sorted (args_sorted1 _) ?_
  unfold Builtin.«sorted»
  refine wpAny_bind (m := checkCount "sorted" 1 1 _) (wpAny_pure ?_)
  refine wpAny_bind (hcol _ _ fun vs bs s1 hpv keep hsz hg ho => ?_)
  have e := e vs bs hpv
  have er := er vs bs hpv
  have hz : vs.length ≤ sizeLine := by rw [e.length]; exact hz vs bs hpv
  refine wpAny_bind (wpAny_newList ?_ hz)
  have hoL : (s1.heap.push (seqObj "list" vs.toArray 0)).get? s1.heap.objs.size = some (seqObj "list" vs.toArray 0) := Heap.get?_push_size _ rfl
  have old : ∀ b u, s.heap.get? b = some u → b ≠ s1.heap.objs.size ∧ (s1.heap.push (seqObj "list" vs.toArray 0)).get? b = some u := fun b u q => ⟨Nat.ne_of_lt (Heap.lt_size (keep _ _ q)), Heap.get?_push_of_some _ (keep _ _ q)⟩
  have er' : PySem.W.EachIs (fun v b => ∃ as, Reads (PySem.W.sortingHeap (s1.heap.push (seqObj "list" vs.toArray 0)) s1.heap.objs.size vs) v (enc b) as) vs bs := er.mono fun _ _ ⟨as, r⟩ => ⟨as, PyProof.Rows.Reads.keeps (fun b u q => PySem.W.sortingHeap_old (old b u q).1 (old b u q).2) r⟩
  refine wpAny_bind (wpAny_holding (wpAny_call_entry slot_list_sort ⟨_, hoL, rfl⟩ entry_list_sort (PySem.W.list_sort_vals (s := { s1 with heap := s1.heap.push (seqObj "list" vs.toArray 0) }) (κ := PySem.W.dataKind (PySem.W.sortingHeap (s1.heap.push (seqObj "list" vs.toArray 0)) s1.heap.objs.size vs) (bs.map enc)) hoL
    (sorts_any (s := { s1 with heap := PySem.W.sortingHeap (s1.heap.push (seqObj "list" vs.toArray 0)) s1.heap.objs.size vs }) (PySem.W.each_map (R := fun v d => ∃ as, Reads (PySem.W.sortingHeap (s1.heap.push (seqObj "list" vs.toArray 0)) s1.heap.objs.size vs) v d as) enc er') (hal vs bs hpv) (hk vs bs hpv) (PySem.W.bound_map (hu vs bs hpv))) hz ⟨_, rfl, ?_⟩) (args_list_sort _)))
  refine wpAny_pure ⟨_, rfl, ?_⟩
  refine h vs bs s1 _ s1.heap.objs.size _ hpv (PySem.W.sortVals_data false e er' (hal vs bs hpv)) (fun b u q => sortedHeap_old (old b u q).1 (old b u q).2) hsz (sortedHeap_at _ hoL) hg ho
end
section
end
section
variable {C : Cal} {g : PySem.Str → Option SV} {k : Nat} {N : Ck} {sc rs : Scope} {X : Cx}
theorem keyIs_of {k : Key} {v : Value} (h : RelV (kV k) v) : keyIs k v = true := by
  cases k with
  | inl i =>
    obtain ⟨t, rfl⟩ := h
    exact keyIs_int i t
  | inr x =>
    obtain ⟨t, rfl⟩ := h
    exact keyIs_str x t
theorem keys_rep {F : Hp} : ∀ {l : List SV} {ks : List Key} {vs : List V}, keysOf l = some ks → RepL X.K F l vs → l = ks.map keySV ∧ vs = ks.map kV
  | [], ks, vs, h, r => by
    cases h
    exact ⟨rfl, r⟩
  | x :: l, ks, vs, h, ⟨v, w, e, r1, r2⟩ => by
    obtain ⟨k, e1, e2⟩ := Option.bind_eq_some_iff.mp (show (keyOf x).bind (fun k => (keysOf l).map fun r => k :: r) = some ks from h)
    obtain ⟨r, e3, e4⟩ := Option.map_eq_some_iff.mp e2
    obtain ⟨q1, q2⟩ := keys_rep e3 r2
    rw [← e4, e, q1, q2]
    cases x <;> first | (cases e1; done) | skip
    · cases e1
      rw [show v = .int _ from r1]
      exact ⟨rfl, rfl⟩
    · cases e1
      rw [show v = .str _ from r1]
      exact ⟨rfl, rfl⟩
end
end Sy

namespace Sy
open PySem PySem.Spec PyProof.Rows L2
/-- what the set has of the first i -/
def Gk (ks : List (Addr × List Key)) (i : Nat) (L : List (Addr × List Key)) : Prop := (∀ p ∈ L, p ∈ ks) ∧ (L.map Prod.snd).Perm (metX [] ((ks.take i).map Prod.snd))
theorem Gk.len {ks L : List (Addr × List Key)} {i : Nat} (g : Gk ks i L) : L.length ≤ i := by
  have h1 := g.2.length_eq
  have h2 := metX_len ((ks.take i).map Prod.snd) []
  simp only [List.length_map, List.length_nil, Nat.zero_add] at h1 h2
  have h3 := List.length_take_le i ks
  omega
theorem Gk.step {ks L L' : List (Addr × List Key)} {i : Nat} {p : Addr × List Key} (g : Gk ks i L) (hp : ks[i]? = some p) (c1 : p.2 ∈ L.map Prod.snd → L' = L) (c2 : p.2 ∉ L.map Prod.snd → L'.Perm (p :: L)) : Gk ks (i + 1) L' := by
  have e : (ks.take (i + 1)).map Prod.snd = (ks.take i).map Prod.snd ++ [p.2] := by rw [List.take_add_one, hp, List.map_append]; rfl
  unfold Gk
  rw [e, metX_app]
  by_cases c : p.2 ∈ L.map Prod.snd
  · obtain rfl := c1 c
    exact ⟨g.1, by rw [if_pos (g.2.mem_iff.mp c)]; exact g.2⟩
  · refine ⟨fun q hq => ?_, ?_⟩
    · rcases List.mem_cons.mp ((c2 c).mem_iff.mp hq) with rfl | hq
      · exact List.mem_of_getElem? hp
      · exact g.1 q hq
    · rw [if_neg fun z => c (g.2.mem_iff.mpr z)]
      exact ((c2 c).map _).trans (((g.2.cons p.2)).trans (List.perm_append_singleton _ _).symm)
section
variable {P : Program} {w : World} {A : Around} {E : Value → Shared → Prop} {s : Shared}
theorem loopK {I : Addr} {fp wr : List Addr} {G : Array GenState → Array GenState → Prop} {n : Nat} {Pv : Nat → Value → Prop} {St : Nat → Shared → Prop} {R : Result → Shared → Prop} (W : WalksS P w A.in1 I fp wr G n Pv St) (S : Addr) (hSf : S ∉ fp)
    (ks : List (Addr × List Key)) (hn : ks.length = n) (few : ks.length ≤ 1000) (hval : ∀ i v, Pv i v → ∃ p, ks[i]? = some p ∧ v = .ref p.1) (h0 : Heap) (hk : ∀ p ∈ ks, IsK P w h0 p.2 p.1) (hS0 : h0.get? S = none) (hw0 : ∀ b ∈ wr, h0.get? b = none) (hu : A.in1.units < cLine) :
    ∀ (k i : Nat) (s : Shared), n - i = k → i ≤ n → St i s → (∀ b o, h0.get? b = some o → s.heap.get? b = some o) → (∃ L es ep t, Kp P w s.heap S L es ep t ∧ Gk ks i L) →
      (∀ s', Moved (S :: wr) G s s' → (∃ L es ep t, Kp P w s'.heap S L es ep t ∧ Gk ks n L) → R (.ok (.ret .none)) s') →
      codeAny (model P w) A (.builtin "set.update.loop" ⟨[.ref S, .ref I], []⟩) R s := by
  have hSw : S ∉ wr := fun h => hSf (W.sub _ h)
  have hsub : ∀ b ∈ wr, b ∈ S :: wr := fun b hb => List.mem_cons_of_mem _ hb
  have stay : ∀ {u v : Shared}, Moved wr G u v → (∀ b o, h0.get? b = some o → u.heap.get? b = some o) → ∀ b o, h0.get? b = some o → v.heap.get? b = some o := fun hm old b o e =>
    hm.heap b o (fun z => by have := hw0 b z; rw [this] at e; cases e) (old b o e)
  have moved : ∀ {u v : Shared} {L es ep t i}, Moved wr G u v → (∀ b o, h0.get? b = some o → u.heap.get? b = some o) → Gk ks i L → Kp P w u.heap S L es ep t → Kp P w v.heap S L es ep t := fun hm old g K => by
    obtain ⟨o, ho, r⟩ := K.ob
    exact { K with ob := ⟨o, hm.heap S o hSw ho, r⟩, tup := fun p hp => isK_up (hk p (g.1 p hp)) (stay hm old) }
  intro k
  induction k with
  | zero =>
    intro i s hki hi hst old ⟨L, es, ep, t, hS, g⟩ hR
    obtain rfl : i = n := by omega
    refine codeAny_builtin PyProof.Rows.F.entry_set_update_loop ?_
    rw [Around.under_plainId PyProof.Rows.F.plain_set_update_loop _]
    show wpAny _ A.in1 (pyNext (.ref I) >>= _) _ _ s
    exact wpAny_bind (W.done s _ _ hst fun s' hm => wpAny_pure (hR s' (hm.mono hsub) ⟨L, es, ep, t, moved hm old g hS, g⟩))
  | succ k ih =>
    intro i s hki hi hst old ⟨L, es, ep, t, hS, g⟩ hR
    have hlt : i < n := by omega
    refine codeAny_builtin PyProof.Rows.F.entry_set_update_loop ?_
    rw [Around.under_plainId PyProof.Rows.F.plain_set_update_loop _]
    show wpAny _ A.in1 (pyNext (.ref I) >>= _) _ _ s
    refine wpAny_bind (W.item i s _ _ hlt hst fun v s' hP hst' hm => ?_)
    obtain ⟨p, hp, rfl⟩ := hval i v hP
    have hS' := moved hm old g hS
    have old' := stay hm old
    have hx : IsK P w s'.heap p.2 p.1 := isK_up (hk p (List.mem_of_getElem? hp)) old'
    show wpAny _ A.in1 (holding [Value.ref p.1] (setAdd S (.ref p.1)) >>= _) _ _ s'
    refine wpAny_bind (wpAny_holding ?_)
    unfold setAdd
    refine wpAny_holding (wpAny_bind (wpAny_pyHash_tuple hu hx ?_))
    refine put_tup (s := { s' with toks := s'.toks + (p.2.length + 1) }) hS' hx hu (by have := g.len; omega) fun b h' L' es' ep' t' hsb hS2 c1 c2 => ?_
    have g' := g.step hp c1 c2
    refine wpAny_pure ⟨plainId_quiet PyProof.Rows.F.plain_set_update_loop _, ih (i + 1) _ (by omega) hlt (W.frame _ s' _ _ hst' (Nat.le_add_right _ _) fun b hb o e => ?_) (fun b o e => (hsb.2 b fun z => by rw [z, hS0] at e; cases e).trans (old' b o e)) ⟨L', es', ep', t', hS2, g'⟩ fun s'' hm'' z => ?_⟩
    · exact (hsb.2 b fun h => hSf (by rw [← h]; exact hb)).trans e
    · refine hR s'' (Moved.trans W.gtrans ((hm.mono hsub).then_heap (Nat.le_add_right _ _) fun b o hb e => ?_) hm'') z
      exact (hsb.2 b fun h => hb (by rw [h]; exact List.mem_cons_self)).trans e
/-- set(x), x a list or tuple of tuples -/
theorem call_setK {T : String} (hT : T = "list" ∨ T = "tuple") {l : Addr} {items : Array Value} {Q : Value → Shared → Prop} (hh : A.handled = none) (hu : A.units + 64 < cLine) {ol : Obj} {nl : Nat} (hol : s.heap.get? l = some ol) (hcl : ol.cls = .type T) (hdl : ol.data = .seq items nl)
    (ks : List (Addr × List Key)) (hit : items.toList = ks.map fun p => Value.ref p.1) (few : ks.length ≤ 1000) (hk : ∀ p ∈ ks, IsK P w s.heap p.2 p.1)
    (h : ∀ (h' : Heap) (tk : Nat) L es ep t, Kp P w h' s.heap.objs.size L es ep t → (∀ p ∈ L, p ∈ ks) → (L.map Prod.snd).Perm (metX [] (ks.map Prod.snd)) → (∀ b o, s.heap.get? b = some o → h'.get? b = some o) → Q (.ref s.heap.objs.size) { s with heap := h', toks := tk }) :
    wpAny (model P w) A (call (.type "set") [.ref l]) Q E s := by
  have hsz : ks.length = items.size := by
    have := congrArg List.length hit
    simpa using this.symm
  have none_ : ∀ b, s.heap.objs.size ≤ b → s.heap.get? b = none := fun b hb => by
    cases q : s.heap.get? b with
    | none => rfl
    | some o => exact absurd (Heap.lt_size q) (Nat.not_lt_of_le hb)
  refine call_set_any hT hh hol hcl hdl (fun h' => ∃ L es ep t, Kp P w h' s.heap.objs.size L es ep t ∧ Gk ks items.size L) (fun A' s0 I fp wr G Pv St R hh' hu' W hSf hwr hPv hst hfr hkeep hR => ?_) fun h' tk ⟨L, es, ep, t, K, g⟩ hkp => ?_
  · refine loopK W _ hSf ks hsz few (fun i v hi => ?_) s.heap hk (none_ _ (Nat.le_refl _)) (fun b hb => none_ b (Nat.le_of_lt (hwr b hb))) (by simp only [Around.in1_units]; omega) _ 0 s0 rfl (Nat.zero_le _) hst hkeep ⟨[], #[], 0, _, ⟨⟨_, hfr, ⟨rfl, rfl, rfl⟩, rfl⟩, rfl, ⟨List.Pairwise.nil, rfl, rfl, ⟨2, rfl⟩, fun i h j hi => by simp at hi⟩, List.nodup_nil, fun p hp => (by cases hp), ?_, show 0 * 5 < 7 * 3 by decide, Nat.zero_le _, show 7 ≤ 8191 by decide⟩, fun p hp => (by cases hp), .nil⟩ hR
    · have := hPv i v hi
      rw [← Array.getElem?_toList, hit, List.getElem?_map] at this
      obtain ⟨p, hp, e⟩ := Option.map_eq_some_iff.mp this
      exact ⟨p, hp, e.symm⟩
    · show _ ∨ (!w.params.followText "set-order") = true
      cases w.params.followText "set-order"
      · exact .inr rfl
      · exact .inl rfl
  · have g2 := g.2
    rw [List.take_of_length_le (by omega)] at g2
    exact h h' tk L es ep t K g.1 g2 hkp
end
end Sy

/-! len(set(x)), sorted(set(x)), x a list or tuple of tuples of texts -/
namespace Sy
open PySem PySem.Spec PyProof.Rows L2
section
variable {C : Cal} {g : PySem.Str → Option SV} {k : Nat} {N : Ck} {sc rs : Scope} {X : Cx}
theorem items_keys : ∀ {k : List Key} {us : List Value}, Vals (k.map kV) us → ItemsAre (mixKind X.prog X.w) k us
  | [], us, h => by cases h; exact .nil
  | k :: ks, us, h => by
    cases h with
    | cons a b => exact .cons (keyIs_of a) (items_keys b)
theorem isK_of {pins : List (Addr × Obj)} {σ : L2.St} {H : Hp} {s : Shared} {b : Addr} {k : List Key} (I : Inv X pins σ H s) (h : SqT X.K H b (k.map kV)) : IsK X.prog X.w s.heap k b := by
  obtain ⟨its, rv, pl, _⟩ := I.tuple h
  have pl' : s.heap.IsTuple b its.toArray := pl
  obtain ⟨o, ho, hc, n, hd⟩ := pl'
  exact ⟨o, its.toArray, n, ho, hc, hd, by simpa using items_keys rv⟩
/-- the tuples, one by one -/
theorem keysU_at {pins : List (Addr × Obj)} {σ : L2.St} {F M H : Hp} {S : Sto} {s : Shared} (I : Inv X pins σ H s) (q : Sim X.K F M S H) : ∀ {l : List SV} {ks : List (List Key)} {vs : List V} {us : List Value}, keysU l = some ks → RepL X.K F l vs → Vals vs us →
    ∃ ps : List (Addr × List Key), us = ps.map (fun p => Value.ref p.1) ∧ ps.map Prod.snd = ks ∧ ∀ p ∈ ps, IsK X.prog X.w s.heap p.2 p.1
  | [], ks, vs, us, h, r, v => by
    cases h
    obtain rfl : vs = [] := r
    cases v
    exact ⟨[], rfl, rfl, fun p hp => by cases hp⟩
  | x :: l, ks, vs, us, h, ⟨v, w, e, r1, r2⟩, hv => by
    subst e
    obtain ⟨k, e1, e2⟩ := Option.bind_eq_some_iff.mp (show ((tupOf x).bind keysOf).bind (fun k => (keysU l).map fun r => k :: r) = some ks from h)
    obtain ⟨r, e3, e4⟩ := Option.map_eq_some_iff.mp e2
    obtain ⟨m, e5, e6⟩ := Option.bind_eq_some_iff.mp e1
    cases hv with
    | cons a b =>
      obtain ⟨ps, q1, q2, q3⟩ := keysU_at I q e3 r2 b
      obtain ⟨d, ws, rfl, t1, t2⟩ := tupOf_t q r1 e5
      obtain ⟨rfl, rfl⟩ := keys_rep e6 t2
      rename_i u us' 
      obtain rfl : u = Value.ref d := a
      exact ⟨(d, k) :: ps, by rw [q1]; rfl, by rw [List.map_cons, q2, ← e4], fun p hp => by
        rcases List.mem_cons.mp hp with rfl | hp
        · exact isK_of I t1
        · exact q3 p hp⟩
theorem keysT_U : ∀ {l : List SV} {ks : List (List Key)}, keysT l = some ks → keysU l = some ks ∧ l = ks.map tupK
  | [], ks, h => by cases h; exact ⟨rfl, rfl⟩
  | x :: l, ks, h => by
    obtain ⟨k, e1, e2⟩ := Option.bind_eq_some_iff.mp (show (tKey x).bind (fun k => (keysT l).map fun r => k :: r) = some ks from h)
    obtain ⟨r, e3, e4⟩ := Option.map_eq_some_iff.mp e2
    obtain ⟨q1, q2⟩ := keysT_U e3
    cases x with
    | tup m =>
      have e1' : keysOf m = some k := e1
      refine ⟨?_, ?_⟩
      · show ((some m).bind keysOf).bind (fun k => (keysU l).map fun r => k :: r) = some ks
        rw [Option.bind_some, e1', Option.bind_some, q1, ← e4]
        rfl
      · have e5 : ∀ {m : List SV} {k : List Key}, keysOf m = some k → m = k.map keySV := by
          intro m
          induction m with
          | nil => intro k h; cases h; rfl
          | cons y m ih =>
            intro k h
            obtain ⟨k0, f1, f2⟩ := Option.bind_eq_some_iff.mp (show (keyOf y).bind (fun k => (keysOf m).map fun r => k :: r) = some k from h)
            obtain ⟨r0, f3, f4⟩ := Option.map_eq_some_iff.mp f2
            rw [← f4, List.map_cons, ← ih f3]
            cases y <;> first | (cases f1; done) | (cases f1; rfl)
        rw [← e4, List.map_cons, ← q2, e5 e1']
        rfl
    | _ => cases e1
theorem srt_tup : ∀ {ks : List (List Key)} {ds : List PyData}, toDs (ks.map tupK) = some ds → ∀ d ∈ ds, ∃ xs, d = .tuple xs
  | [], ds, h, d, hd => by
    have e : some [] = some ds := by simpa [toDs] using h
    cases e
    cases hd
  | k :: ks, ds, h, d, hd => by
    obtain ⟨d0, e1, e2⟩ := Option.bind_eq_some_iff.mp (show ((toD (tupK k)).bind fun d => (toDs (ks.map tupK)).map fun r => d :: r) = some ds by simpa [toDs] using h)
    obtain ⟨r, e3, e4⟩ := Option.map_eq_some_iff.mp e2
    rw [← e4] at hd
    rcases List.mem_cons.mp hd with rfl | hd
    · have e5 : (toDs (k.map keySV)).map PyData.tuple = some d := by simpa [tupK, toD] using e1
      obtain ⟨xs, _, rfl⟩ := Option.map_eq_some_iff.mp e5
      exact ⟨xs, rfl⟩
    · exact srt_tup e3 d hd
theorem toD_of_toDs : ∀ {l : List SV} {ds : List PyData}, toDs l = some ds → ∀ x ∈ l, ∃ d, toD x = some d
  | [], _, _, x, hx => by cases hx
  | y :: l, ds, h, x, hx => by
    obtain ⟨d0, e1, e2⟩ := Option.bind_eq_some_iff.mp (show ((toD y).bind fun d => (toDs l).map fun r => d :: r) = some ds by simpa [toDs] using h)
    obtain ⟨r, e3, e4⟩ := Option.map_eq_some_iff.mp e2
    rcases List.mem_cons.mp hx with rfl | hx
    · exact ⟨d0, e1⟩
    · exact toD_of_toDs e3 x hx
/-- the part before: set(x) made -/
theorem se_set_any (G : Good C g k N sc rs X) {a : ME} {e : PySem.Expr} {p2 p3 : Pos} {T : Sto → SV → (SK → Prop)} {Q' : Value → Shared → Prop} {pins : List (Addr × Obj)} {s : Shared} {σ : L2.St} {H F M : Hp} {S : Sto} {ρ : Ro} {kq : SK} {Q : VK} (h2 : glE sc "set" = true) (ha : PE X e (LE X.K (wE C g a))) (hp : plE e = true)
    (I : Inv X pins σ H s) (r : RepR X.K F ρ σ) (q : Sim X.K F M S H) (kk : Kk X.K F M kq Q) (h : wE C g a ρ S fun x S1 => T S1 x kq) (hT : ∀ S1 x, T S1 x kq → ∃ l ks, seqOf S1 x = some l ∧ keysU l = some ks ∧ ks.length ≤ 1000)
    (done : ∀ (F1 : Hp) (S1 : Sto) (H1 : Hp) (s1 : Shared) (x : SV) (l : List SV) (ks : List (List Key)) (ps : List (Addr × List Key)) (vs : List V) (h' : Heap) (tk : Nat) L es ep t, Same F F1 → Sim X.K F1 M S1 H1 → Inv X pins σ H1 s1 → seqOf S1 x = some l → keysU l = some ks → T S1 x kq → RepL X.K F1 l (ps.map fun p => V.ref p.1) →
      ps.map Prod.snd = ks → Kp X.prog X.w h' s1.heap.objs.size L es ep t → (∀ p ∈ L, p ∈ ps) → (L.map Prod.snd).Perm (metX [] ks) → (∀ b o, s1.heap.get? b = some o → h'.get? b = some o) → Q' (.ref s1.heap.objs.size) { s1 with heap := h', toks := tk }) :
    wpAny (model X.prog X.w) X.A (eval (.Call (.Name "set" p2) [e] [] p3) X.env) Q' X.xe s := by
  have hc := G.calm
  have hu := G.room.units
  have na := pl_star hp [] X.env
  refine Call_ (ld_blt I (G.gl_ h2).1 G.set boot_set ?_)
  refine PyProof.Rows.callWith_type1 (PyProof.Rows.args_cons (thn (ha.run pins s σ H (fun v H1 => ∃ F1 S1 x, Same F F1 ∧ Sim X.K F1 M S1 H1 ∧ RepV X.K F1 x v ∧ T S1 x kq) I
    ⟨F, M, S, ρ, _, r, q, h, fun F1 S1 H1 x v e1 q1 rx z => ⟨F1, S1, x, e1, q1, rx, z⟩⟩) fun v s1 ⟨x, H1, I1, r1, q1⟩ => PyProof.Rows.args_nil ?_) na) na rfl
  obtain ⟨F1, S1, y, e1, q2, ry, o4⟩ := q1
  obtain ⟨l, ks, o1, o2, o3⟩ := hT S1 y o4
  obtain ⟨a, vs, rfl, hsq, rl⟩ := seq_lt q2 ry o1
  obtain rfl : v = Value.ref a := r1
  obtain ⟨T', ob, n, its, hT, ho, hcl, hd, hv⟩ : ∃ (T : String) (ob : Obj) (n : Nat) (its : List Value), (T = "list" ∨ T = "tuple") ∧ s1.heap.get? a = some ob ∧ ob.cls = .type T ∧ ob.data = .seq its.toArray n ∧ Vals vs its := by
    rcases hsq with h1 | h1
    · obtain ⟨its, hv, hp, hz⟩ := I1.list h1
      obtain ⟨ob, ho, hc, n, hd⟩ := hp.isList
      exact ⟨"list", ob, n, its, .inl rfl, ho, hc, hd, hv⟩
    · obtain ⟨its, hv, hp, hz⟩ := I1.tuple h1
      have pT : s1.heap.IsTuple a its.toArray := hp
      obtain ⟨ob, ho, hc, n, hd⟩ := pT
      exact ⟨"tuple", ob, n, its, .inr rfl, ho, hc, hd, hv⟩
  obtain ⟨ps, z1, z2, z3⟩ := keysU_at I1 q2 o2 rl hv
  have evs : vs = ps.map fun p => V.ref p.1 := by
    have go : ∀ {vs : List V} {us : List Value} {ps : List (Addr × List Key)} {l : List SV} {ks : List (List Key)}, keysU l = some ks → RepL X.K F1 l vs → Vals vs us → us = ps.map (fun p => Value.ref p.1) → vs = ps.map fun p => V.ref p.1 := by
      intro vs us ps l ks hk hl hv
      induction hv generalizing ps l ks with
      | nil =>
        intro e
        cases ps with
        | nil => rfl
        | cons _ _ => cases e
      | @cons v u vs us c d ih =>
        intro e
        cases ps with
        | nil => cases e
        | cons p ps =>
          rw [List.map_cons] at e
          injection e with e4 e5
          cases l with
          | nil => exact absurd hl (by simp [RepL])
          | cons x l =>
            obtain ⟨v', w', e6, r6, r7⟩ := hl
            injection e6 with e7 e8
            obtain ⟨k, f1, f2⟩ := Option.bind_eq_some_iff.mp (show ((tupOf x).bind keysOf).bind (fun k => (keysU l).map fun r => k :: r) = some ks from hk)
            obtain ⟨r, f3, f4⟩ := Option.map_eq_some_iff.mp f2
            obtain ⟨m, f5, f6⟩ := Option.bind_eq_some_iff.mp f1
            obtain ⟨d, ws, e9, _, _⟩ := tupOf_t q2 r6 f5
            rw [List.map_cons, ih f3 (by rw [e8]; exact r7) e5]
            congr 1
            rw [e7, e9]
            rw [e7, e9, e4] at c
            have c' : Value.ref p.1 = Value.ref d := c
            injection c' with c'
            rw [c']
    exact go o2 rl hv z1
  refine call_setK hT (I1.ok.hd hc) hu ho hcl hd ps (by simpa using z1) (by rw [← List.length_map (f := Prod.snd), z2]; exact o3) z3 fun h' tk L es ep t K k1 k2 k3 => ?_
  exact done F1 S1 H1 s1 y l ks ps vs h' tk L es ep t e1 q2 I1 o1 o2 o4 (by rw [← evs]; exact rl) z2 K k1 (by rw [← z2]; exact k2) k3
theorem se_lsetT (G : Good C g k N sc rs X) {own : Bool} {a : ME} {e : PySem.Expr} {p1 p2 p3 pos : Pos} (h1 : glE sc "len" = true) (h2 : glE sc "set" = true) (ha : PE X e (LE X.K (wE C g a))) (hp : plE e = true) :
    PE X (.Call (.Name "len" p1) [.Call (.Name "set" p2) [e] [] p3] [] pos) (LE X.K (wE C g (.setT true own a))) := by
  refine ⟨fun pins s σ H Q I h => ?_⟩
  refine Call_ (ld_blt I (G.gl_ h1).1 (G.bi .len) PySem.boot_len ?_)
  refine PyProof.Rows.callWith_builtin1 (PyProof.Rows.args_cons ?_ rfl) rfl rfl
  obtain ⟨F, M, S, ρ, kq, r, q, h, kk⟩ := h
  refine se_set_any G (T := fun S1 x k1 => lsetTS x S1 k1) h2 ha hp I r q kk h (fun S1 x ⟨l, ks, o1, o2, o3, _⟩ => ⟨l, ks, o1, o2, o3⟩) fun F1 S1 H1 s1 x l ks ps vs h' tk L es ep t e1 q2 I1 o1 o2 o3 rl z2 K k1 k2 k3 => ?_
  refine PyProof.Rows.args_nil ?_
  obtain ⟨l', ks', o4, o5, _, o6⟩ := o3
  rw [o1] at o4
  cases o4
  rw [o2] at o5
  cases o5
  obtain ⟨o, ho, hex, hd⟩ := K.ob
  have I2 : Inv X pins σ H1 { s1 with heap := h', toks := tk } := I1.kept k3
  have hn : es.size = (metX [] ks).length := by rw [rows_size K.rows, ← k2.length_eq, List.length_map]
  have few := K.few
  refine call_len_set (s := { s1 with heap := h', toks := tk }) ho hex hd (Kp.fits (s := { s1 with heap := h', toks := tk }) K) (by rw [rows_size K.rows]; omega) ⟨.int (metX [] ks).length, H1, I2.tok _, ⟨_, by rw [hn]⟩, ?_⟩
  exact kk.mono e1 |>.go q2 (show RepV X.K F1 (.int _) (.int _) from rfl) o6
theorem tup_reps {K : PySem.W.Frag} {F : Hp} : ∀ {ps : List (Addr × List Key)}, RepL K F ((ps.map Prod.snd).map tupK) (ps.map fun p => V.ref p.1) → ∀ p ∈ ps, RepV K F (tupK p.2) (.ref p.1)
  | [], _, p, hp => by cases hp
  | q :: ps, ⟨v, r, e, h1, h2⟩, p, hp => by
    injection e with e3 e4
    rcases List.mem_cons.mp hp with rfl | hp
    · rw [← e3] at h1; exact h1
    · exact tup_reps (by rw [e4]; exact h2) p hp
theorem reps_of {K : PySem.W.Frag} {F : Hp} : ∀ {L : List (Addr × List Key)}, (∀ p ∈ L, RepV K F (tupK p.2) (.ref p.1)) → RepL K F (L.map fun p => tupK p.2) (L.map fun p => V.ref p.1)
  | [], _ => rfl
  | p :: L, h => ⟨_, _, rfl, h p (by simp), reps_of fun q hq => h q (by simp [hq])⟩
/-- the values of a walk through the set -/
theorem walk_refs : ∀ {vs : List Value} {L : List (Addr × List Key)}, (∀ v ∈ vs, ∃ p ∈ L, v = Value.ref p.1) → ∃ L1 : List (Addr × List Key), vs = L1.map (fun p => Value.ref p.1) ∧ ∀ p ∈ L1, p ∈ L
  | [], _, _ => ⟨[], rfl, fun p hp => by cases hp⟩
  | v :: vs, L, h => by
    obtain ⟨p, hp, rfl⟩ := h v (by simp)
    obtain ⟨L1, rfl, h2⟩ := walk_refs (vs := vs) (L := L) fun u hu => h u (by simp [hu])
    exact ⟨p :: L1, rfl, fun q hq => by
      rcases List.mem_cons.mp hq with rfl | hq
      · exact hp
      · exact h2 q hq⟩
theorem walk_perm {P : Program} {w : World} {h : Heap} {vs : List Value} {L : List (Addr × List Key)} (ht : ∀ p ∈ L, IsK P w h p.2 p.1) (nd : (L.map Prod.snd).Nodup) (pm : vs.Perm (L.map fun p => Value.ref p.1)) :
    ∃ L1 : List (Addr × List Key), vs = L1.map (fun p => Value.ref p.1) ∧ L1.Perm L := by
  obtain ⟨L1, rfl, h1⟩ := walk_refs (vs := vs) (L := L) fun v hv => by
    obtain ⟨p, hp, e⟩ := List.mem_map.mp (pm.mem_iff.mp hv)
    exact ⟨p, hp, e.symm⟩
  have one : ∀ p ∈ L, ∀ q ∈ L, p.1 = q.1 → p = q := fun p hp q hq e => by
    have a1 := ht p hp
    rw [e] at a1
    exact Prod.ext e (a1.inj (ht q hq))
  have nL : L.Nodup := nodup_of_map nd
  have nr : (L.map fun p => Value.ref p.1).Nodup := List.pairwise_map.mpr (nL.imp_of_mem fun {p q} hp hq ne e => ne (one p hp q hq (by injection e)))
  refine ⟨L1, rfl, (perm_full nL (fun p hp => ?_) ?_)⟩
  · obtain ⟨q, hq, e⟩ := List.mem_map.mp (pm.mem_iff.mpr (List.mem_map.mpr ⟨p, hp, rfl⟩))
    injection e with e
    rw [← one q (h1 q hq) p hp e]
    exact hq
  · have := pm.length_eq
    simp only [List.length_map] at this
    omega
theorem each_choose_map : ∀ (bs : List (Addr × List Key)), PySem.W.EachIs (fun v b => v = Value.ref b.1) (bs.map fun p => Value.ref p.1) bs
  | [] => .nil
  | _ :: bs => .cons rfl (each_choose_map bs)
theorem each_map_mem {R : Value → Addr × List Key → Prop} : ∀ (bs : List (Addr × List Key)), (∀ b ∈ bs, R (.ref b.1) b) → PySem.W.EachIs R (bs.map fun p => Value.ref p.1) bs
  | [], _ => .nil
  | _ :: bs, h => .cons (h _ (by simp)) (each_map_mem bs fun c hc => h c (by simp [hc]))
theorem se_ssetT (G : Good C g k N sc rs X) {own : Bool} {a : ME} {e : PySem.Expr} {p1 p2 p3 pos : Pos} (h1 : glE sc "sorted" = true) (h2 : glE sc "set" = true) (ha : PE X e (LE X.K (wE C g a))) (hp : plE e = true) :
    PE X (.Call (.Name "sorted" p1) [.Call (.Name "set" p2) [e] [] p3] [] pos) (LE X.K (wE C g (.setT false own a))) := by
  have hu := G.room.units
  refine ⟨fun pins s σ H Q I h => ?_⟩
  refine Call_ (ld_blt I (G.gl_ h1).1 (G.bi .sorted) PyProof.Rows.boot_sorted ?_)
  refine PyProof.Rows.callWith_builtin1 (PyProof.Rows.args_cons ?_ rfl) rfl rfl
  obtain ⟨F, M, S, ρ, kq, r, q, h, kk⟩ := h
  refine se_set_any G (T := fun S1 x k1 => ssetTS own x S1 k1) h2 ha hp I r q kk h (fun S1 x ⟨l, ks, ds, o1, o2, o3, _⟩ => ⟨l, ks, o1, (keysT_U o2).1, o3⟩)
    fun F1 S1 H1 s1 x l ks ps vs h' tk L es ep t e1 q2 I1 o1 o2 o3 rl z2 K k1 k2 k3 => ?_
  refine PyProof.Rows.args_nil ?_
  obtain ⟨l', ks', ds, o4, o5, few, o6, o7, o8, o9⟩ := o3
  rw [o1] at o4
  cases o4
  obtain ⟨u1, u2⟩ := keysT_U o5
  rw [o2] at u1
  cases u1
  subst u2
  rw [← z2] at rl
  have reps := tup_reps rl
  obtain ⟨o, ho, hex, hd⟩ := K.ob
  have I2 : Inv X pins σ H1 { s1 with heap := h', toks := tk } := I1.kept k3
  have len : ∀ {bs : List (Addr × List Key)}, bs.Perm L → bs.length ≤ 1000 := fun pm => by rw [pm.length_eq]; exact K.few
  have inps : ∀ {bs : List (Addr × List Key)}, bs.Perm L → ∀ b ∈ bs, b ∈ ps := fun pm b hb => k1 b (pm.mem_iff.mp hb)
  have mem : ∀ {bs : List (Addr × List Key)}, bs.Perm L → ∀ b ∈ bs, tupK b.2 ∈ ks.map tupK := fun pm b hb => List.mem_map.mpr ⟨b.2, by rw [← z2]; exact List.mem_map.mpr ⟨b, inps pm b hb, rfl⟩, rfl⟩
  have eds : (ks.map tupK).map datE = ds := toDs_map o6
  have sub : ∀ {bs : List (Addr × List Key)}, bs.Perm L → ∀ d ∈ (bs.map fun b => datE (tupK b.2)), d ∈ ds := fun pm d hd => by
    obtain ⟨b, hb, rfl⟩ := List.mem_map.mp hd
    rw [← eds]
    exact List.mem_map.mpr ⟨_, mem pm b hb, rfl⟩
  refine sorted_ofD (s := { s1 with heap := h', toks := tk }) (β := Addr × List Key) (fun us bs => us = bs.map (fun p => Value.ref p.1) ∧ bs.Perm L) (R := fun v b => v = Value.ref b.1) (enc := fun b => datE (tupK b.2)) (fun E' Q' hq => ?_) (fun us bs h => ?_) (fun us bs h => ?_) (fun us bs h => ?_) (fun us bs h => ?_) (fun us bs h => ?_) (fun us bs h b hb => ?_) fun us bs s3 h3 d out hpv ho3 hk3 hd3 hn3 hg3 hos3 => ?_
  · refine collect_set (I2.ok.hd G.calm) ⟨o, ho, hex.1, hd⟩ (Kp.fits (s := { s1 with heap := h', toks := tk }) K) (by rw [rows_size K.rows]; have := K.few; unfold scanBound; omega) K.tab.ris K.led fun s' out k1 k2 k3 k4 k5 => ?_
    have e5 : es.toList.map (·.2) = L.map fun p => Value.ref p.1 := by
      rw [K.rows, List.map_map]
      rfl
    rw [e5] at k5
    obtain ⟨L1, rfl, r2⟩ := walk_perm K.tup K.nd k5
    exact hq _ L1 s' ⟨rfl, r2⟩ k1 k2 k3 k4
  · have := len h.2
    have : (1000 : Nat) ≤ sizeLine := by decide
    omega
  · rw [h.1]
    exact each_choose_map bs
  · rw [h.1]
    refine each_map_mem bs fun b hb => ?_
    obtain ⟨d, hd'⟩ := toD_of_toDs o6 _ (mem h.2 b hb)
    have ed : datE (tupK b.2) = d := by unfold datE; rw [hd']; rfl
    have hD : Dp X.K H1 (.ref b.1) (datE (tupK b.2)) := toD_ok q2.f (tupK b.2) _ _ (reps b (inps h.2 b hb)) (by rw [ed]; exact hd')
    exact Dp.reads I2 _ _ _ hD rfl
  · intro d hd' d' hd''
    exact o7 d (sub h.2 d hd') d' (sub h.2 d' hd'')
  · exact .inr (.inr fun d hd' => srt_tup o6 d (sub h.2 d hd'))
  · have := o8 _ (sub h.2 _ (List.mem_map.mpr ⟨b, hb, rfl⟩))
    omega
  · obtain ⟨c, hn3⟩ := hn3
    generalize hbs : bs.mergeSort (PySem.W.dataLe false fun b => datE (tupK b.2)) = bs' at ho3
    have pm' : bs'.Perm L := by rw [← hbs]; exact (List.mergeSort_perm _ _).trans hpv.2
    have hv3 : ∀ {us : List Value} {r : List (Addr × List Key)}, PySem.W.EachIs (fun v b => v = Value.ref b.1) us r → Vals (r.map fun p => V.ref p.1) us := by
      intro us r q
      induction q with
      | nil => exact .nil
      | cons a b ih => exact .cons a ih
    have hlen : (bs'.map fun p => V.ref p.1).length ≤ sizeLine := by
      rw [List.length_map]
      have := len pm'
      have : (1000 : Nat) ≤ sizeLine := by decide
      omega
    have hnone : H1 d = none := I2.hok.fresh hd3
    have J : Inv X pins σ (upd H1 d (.lst (bs'.map fun p => V.ref p.1))) { ({ s1 with heap := h', toks := tk } : Shared) with heap := h3, gens := s3.gens, drawn := s3.drawn, toks := s3.toks } :=
      I2.call (ch := []) (Un.laid hk3 hd3 hnone) (I2.hok.laid hk3 hd3 ⟨hlen, out, c, hv3 ho3, hn3⟩) (by rw [hg3]; exact I2.bare) (fun _ z => nomatch z)
    have es : ({ heap := h3, gens := s3.gens, drawn := s3.drawn, toks := s3.toks, os := s3.os } : Shared) = { ({ s1 with heap := h', toks := tk } : Shared) with heap := h3, gens := s3.gens, drawn := s3.drawn, toks := s3.toks } := by rw [hos3]
    rw [es]
    have em : srtL ((bs.map Prod.snd).map tupK) = bs'.map fun b => tupK b.2 := by
      rw [← hbs, List.map_map]
      unfold srtL
      refine (List.map_mergeSort fun a _ b _ => ?_).symm
      rfl
    have fin := o9 (bs.map Prod.snd) ((hpv.2.map Prod.snd).trans k2)
    rw [em] at fin
    exact ⟨.ref d, _, J, rfl, newL_ok q2 (reps_of fun p hp => reps p (inps pm' p hp)) fin (kk.mono e1) hnone⟩
theorem se_setT (G : Good C g k N sc rs X) {ln own : Bool} {a : ME} {e : PySem.Expr} {p1 p2 p3 pos : Pos} (h1 : glE sc (if ln then "len" else "sorted") = true) (h2 : glE sc "set" = true) (ha : PE X e (LE X.K (wE C g a))) (hp : plE e = true) :
    PE X (.Call (.Name (if ln then "len" else "sorted") p1) [.Call (.Name "set" p2) [e] [] p3] [] pos) (LE X.K (wE C g (.setT ln own a))) := by
  cases ln
  · exact se_ssetT G h1 h2 ha hp
  · exact se_lsetT G h1 h2 ha hp
end
end Sy

namespace Sy
open PySem PySem.Spec PyProof.Rows L2
section
variable {C : Cal} {g : PySem.Str → Option SV} {k : Nat} {N : Ck}
/-! what a look that was passed says of the tree -/
section
variable {sc : Scope} {e : PySem.Expr}
theorem i_var {i : Nat} {x : PySem.Str} (h : cE N sc (.var i x) e = true) : ∃ p, e = .Name x p ∧ nmE N.N sc i x = true := by
  cases e <;> first | (cases h; done) | skip
  rename_i y p
  have h' : (decide (x = y) && nmE N.N sc i x) = true := h
  simp only [Bool.and_eq_true, decide_eq_true_eq] at h'
  obtain ⟨rfl, h'⟩ := h'
  exact ⟨p, rfl, h'⟩
theorem i_cst {c : Const} (h : cE N sc (.cst c) e = true) : ∃ j p, e = .Constant c j p := by
  cases e <;> first | (cases h; done) | skip
  rename_i c' j p
  have h' : (decide (c = c') && (cstS c).isSome) = true := h
  simp only [Bool.and_eq_true, decide_eq_true_eq] at h'
  obtain ⟨rfl, h'⟩ := h'
  exact ⟨j, p, rfl⟩
theorem i_glob {x : PySem.Str} (h : cE N sc (.glob x) e = true) : ∃ p, e = .Name x p ∧ glE sc x = true := by
  cases e <;> first | (cases h; done) | skip
  rename_i y p
  have h' : (decide (x = y) && glE sc x) = true := h
  simp only [Bool.and_eq_true, decide_eq_true_eq] at h'
  obtain ⟨rfl, h'⟩ := h'
  exact ⟨p, rfl, h'⟩
theorem i_tup {as : MA} (h : cE N sc (.tup as) e = true) : ∃ es n p, e = .Tuple es n p ∧ cA N sc as es = true := by
  cases e <;> first | (cases h; done) | exact ⟨_, _, _, rfl, h⟩
theorem i_lst {own : Bool} {as : MA} (h : cE N sc (.lst own as) e = true) : ∃ es p, e = .List es p ∧ cA N sc as es = true := by
  cases e <;> first | (cases h; done) | exact ⟨_, _, rfl, h⟩
theorem i_bin {o : Operator} {own : Bool} {a b : ME} (h : cE N sc (.bin o own a b) e = true) : ∃ l r p, e = .BinOp l o r p ∧ cE N sc a l = true ∧ cE N sc b r = true := by
  cases e <;> first | (cases h; done) | skip
  rename_i l o' r p
  have h' : (decide (o = o') && cE N sc a l && cE N sc b r) = true := h
  simp only [Bool.and_eq_true, decide_eq_true_eq] at h'
  obtain ⟨⟨rfl, h1⟩, h2⟩ := h'
  exact ⟨l, r, p, rfl, h1, h2⟩
theorem i_cmp {o : CmpOp} {a b : ME} (h : cE N sc (.cmp o a b) e = true) : ∃ l r p, e = .Compare l [o] [r] p ∧ cE N sc a l = true ∧ cE N sc b r = true := by
  cases e <;> first | (cases h; done) | skip
  rename_i l os rs p
  match os, rs, h with
  | [o'], [r], h =>
    have h' : (decide (o = o') && cE N sc a l && cE N sc b r) = true := h
    simp only [Bool.and_eq_true, decide_eq_true_eq] at h'
    obtain ⟨⟨rfl, h1⟩, h2⟩ := h'
    exact ⟨l, r, p, rfl, h1, h2⟩
  | [], _, h => cases h
  | [_], [], h => cases h
  | [_], _ :: _ :: _, h => cases h
  | _ :: _ :: _, _, h => cases h
theorem i_neg {a : ME} (h : cE N sc (.neg a) e = true) : ∃ x p, e = .UnaryOp .USub x p ∧ cE N sc a x = true := by
  cases e <;> first | (cases h; done) | skip
  rename_i o x p
  cases o <;> first | (cases h; done) | exact ⟨_, _, rfl, h⟩
theorem i_not {a : ME} (h : cE N sc (.not a) e = true) : ∃ x p, e = .UnaryOp .Not x p ∧ cE N sc a x = true := by
  cases e <;> first | (cases h; done) | skip
  rename_i o x p
  cases o <;> first | (cases h; done) | exact ⟨_, _, rfl, h⟩
theorem i_and {a b : ME} (h : cE N sc (.and a b) e = true) : ∃ x y r p, e = .BoolOp .And (x :: y :: r) p ∧ cE N sc a x = true ∧ ((r = [] ∧ cE N sc b y = true) ∨ (∃ z t, r = z :: t ∧ cE N sc b (.BoolOp .And (y :: r) p) = true)) := by
  cases e <;> first | (cases h; done) | skip
  rename_i o es p
  cases o <;> first | (cases h; done) | skip
  match es, h with
  | [], h => cases h
  | [_], h => cases h
  | [x, y], h =>
    have h' : (cE N sc a x && cE N sc b y) = true := h
    rw [Bool.and_eq_true] at h'
    exact ⟨x, y, [], p, rfl, h'.1, .inl ⟨rfl, h'.2⟩⟩
  | x :: y :: z :: r, h =>
    have h' : (cE N sc a x && cE N sc b (.BoolOp .And (y :: z :: r) p)) = true := h
    rw [Bool.and_eq_true] at h'
    exact ⟨x, y, z :: r, p, rfl, h'.1, .inr ⟨z, r, rfl, h'.2⟩⟩
theorem i_or {a b : ME} (h : cE N sc (.or a b) e = true) : ∃ x y r p, e = .BoolOp .Or (x :: y :: r) p ∧ cE N sc a x = true ∧ ((r = [] ∧ cE N sc b y = true) ∨ (∃ z t, r = z :: t ∧ cE N sc b (.BoolOp .Or (y :: r) p) = true)) := by
  cases e <;> first | (cases h; done) | skip
  rename_i o es p
  cases o <;> first | (cases h; done) | skip
  match es, h with
  | [], h => cases h
  | [_], h => cases h
  | [x, y], h =>
    have h' : (cE N sc a x && cE N sc b y) = true := h
    rw [Bool.and_eq_true] at h'
    exact ⟨x, y, [], p, rfl, h'.1, .inl ⟨rfl, h'.2⟩⟩
  | x :: y :: z :: r, h =>
    have h' : (cE N sc a x && cE N sc b (.BoolOp .Or (y :: z :: r) p)) = true := h
    rw [Bool.and_eq_true] at h'
    exact ⟨x, y, z :: r, p, rfl, h'.1, .inr ⟨z, r, rfl, h'.2⟩⟩
theorem i_call {f : PySem.Str} {as : MA} (h : cE N sc (.call f as) e = true) : ∃ es p q, e = .Call (.Name f p) es [] q ∧ glE sc f = true ∧ f ∈ N.T ∧ cA N sc as es = true := by
  cases e <;> first | (cases h; done) | skip
  rename_i fn es ks q
  cases fn <;> first | (cases h; done) | skip
  cases ks <;> first | (cases h; done) | skip
  rename_i y p
  have h' : (decide (f = y) && glE sc f && decide (f ∈ N.T) && cA N sc as es) = true := h
  simp only [Bool.and_eq_true, decide_eq_true_eq] at h'
  obtain ⟨⟨⟨rfl, h1⟩, h2⟩, h3⟩ := h'
  exact ⟨es, p, q, rfl, h1, h2, h3⟩
theorem i_callv {i : Nat} {x : PySem.Str} {as : MA} (h : cE N sc (.callv i x as) e = true) : ∃ es p q, e = .Call (.Name x p) es [] q ∧ nmE N.N sc i x = true ∧ es.isEmpty = false ∧ cA N sc as es = true := by
  cases e <;> first | (cases h; done) | skip
  rename_i fn es ks q
  cases fn <;> first | (cases h; done) | skip
  cases ks <;> first | (cases h; done) | skip
  rename_i y p
  have h' : (decide (x = y) && nmE N.N sc i x && (x != "super") && !es.isEmpty && cA N sc as es) = true := h
  simp only [Bool.and_eq_true, decide_eq_true_eq, Bool.not_eq_true'] at h'
  obtain ⟨⟨⟨⟨rfl, h1⟩, _⟩, h2⟩, h3⟩ := h'
  exact ⟨es, p, q, rfl, h1, h2, h3⟩
theorem i_bi {f : Bi} {own : Bool} {as : MA} (h : cE N sc (.bi f own as) e = true) : ∃ es p q, e = .Call (.Name (biN f) p) es [] q ∧ glE sc (biN f) = true ∧ cA N sc as es = true := by
  cases e <;> first | (cases h; done) | skip
  rename_i fn es ks q
  cases fn <;> first | (cases h; done) | skip
  cases ks <;> first | (cases h; done) | skip
  rename_i y p
  have h' : (decide (biN f = y) && glE sc y && cA N sc as es) = true := h
  simp only [Bool.and_eq_true, decide_eq_true_eq] at h'
  obtain ⟨⟨h0, h1⟩, h3⟩ := h'
  subst h0
  exact ⟨es, p, q, rfl, h1, h3⟩
theorem i_mt {m : Mt} {own : Bool} {a : ME} {as : MA} (h : cE N sc (.mt m own a as) e = true) : ∃ o es ap q, e = .Call (.Attribute o (mtN m) ap) es [] q ∧ mtIn m = true ∧ (ap.endLine == q.line) = true ∧ es.length = mtA m ∧ cE N sc a o = true ∧ cA N sc as es = true := by
  cases e <;> first | (cases h; done) | skip
  rename_i fn es ks q
  cases fn <;> first | (cases h; done) | skip
  cases ks <;> first | (cases h; done) | skip
  rename_i o y ap
  have h' : (mtIn m && decide (mtN m = y) && (ap.endLine == q.line) && decide (es.length = mtA m) && cE N sc a o && cA N sc as es) = true := h
  simp only [Bool.and_eq_true, decide_eq_true_eq] at h'
  obtain ⟨⟨⟨⟨⟨h1, h2⟩, h3⟩, h4⟩, h5⟩, h6⟩ := h'
  subst h2
  exact ⟨o, es, ap, q, rfl, h1, h3, h4, h5, h6⟩
theorem i_lc {own : Bool} {ow : List (PySem.Str × Nat)} {elt : ME} {t : MT} {ik : ItK} {ia : MA} {c : MO} (h : cE N sc (.lc own ow elt t ik ia c) e = true) :
    ∃ x tg iter ifs scope p, e = .ListComp x [⟨tg, iter, ifs, 0⟩] scope p ∧ blkC N.N sc scope ow = true ∧ (∀ i ∈ tgI t, i ∈ ow.map Prod.snd) ∧ tgE N.N scope t tg = true ∧ cI N sc ik ia iter (tupE tg) = true ∧ cC N (relS scope sc) c ifs = true ∧ cE N (relS scope sc) elt x = true := by
  cases e <;> first | (cases h; done) | skip
  rename_i x gs scope p
  match gs, h with
  | [], h => cases h
  | _ :: _ :: _, h => exact absurd h (by unfold cE; simp)
  | [⟨tg, iter, ifs, n⟩], h =>
    by_cases hn : n = 0
    · subst hn
      have h' : (blkC N.N sc scope ow && (tgI t).all (fun i => decide (i ∈ ow.map Prod.snd)) && tgE N.N scope t tg && cI N sc ik ia iter (tupE tg) && cC N (relS scope sc) c ifs && cE N (relS scope sc) elt x) = true := h
      simp only [Bool.and_eq_true, List.all_eq_true, decide_eq_true_eq] at h'
      obtain ⟨⟨⟨⟨⟨h1, h2⟩, h3⟩, h4⟩, h5⟩, h6⟩ := h'
      exact ⟨x, tg, iter, ifs, scope, p, rfl, h1, h2, h3, h4, h5, h6⟩
    · exact absurd h (by unfold cE; simp [hn])
theorem i_idx {a i : ME} (h : cE N sc (.idx a i) e = true) : ∃ x y p, e = .Subscript x y p ∧ cE N sc a x = true ∧ cE N sc i y = true := by
  cases e <;> first | (cases h; done) | skip
  rename_i x y p
  have h' : (cE N sc a x && cE N sc i y) = true := h
  rw [Bool.and_eq_true] at h'
  exact ⟨x, y, p, rfl, h'.1, h'.2⟩
theorem i_sl {own : Bool} {a : ME} {lo hi : MO} (h : cE N sc (.sl own a lo hi) e = true) : ∃ x l r p2 p, e = .Subscript x (.Slice l r none p2) p ∧ cE N sc a x = true ∧ cO N sc lo l = true ∧ cO N sc hi r = true := by
  cases e <;> first | (cases h; done) | skip
  rename_i x y p
  cases y <;> first | (cases h; done) | skip
  rename_i l r st p2
  cases st <;> first | (cases h; done) | skip
  have h' : (cE N sc a x && cO N sc lo l && cO N sc hi r) = true := h
  simp only [Bool.and_eq_true] at h'
  exact ⟨x, l, r, p2, p, rfl, h'.1.1, h'.1.2, h'.2⟩
theorem i_dnew {tk : Bool} (h : cE N sc (.dnew tk) e = true) : ∃ p, e = .Dict [] [] p := by
  cases e <;> first | (cases h; done) | skip
  rename_i ks vs p
  cases ks <;> cases vs <;> first | (cases h; done) | exact ⟨_, rfl⟩
theorem i_setT {ln own : Bool} {a : ME} (h : cE N sc (.setT ln own a) e = true) : ∃ x p1 p2 p3 p, e = .Call (.Name (if ln then "len" else "sorted") p1) [.Call (.Name "set" p2) [x] [] p3] [] p ∧ glE sc (if ln then "len" else "sorted") = true ∧ glE sc "set" = true ∧ cE N sc a x = true := by
  unfold cE at h
  split at h <;> first | (cases h; done) | skip
  all_goals (rename_i hq; first | (cases hq; done) | skip)
  cases hq
  simp only [Bool.and_eq_true, decide_eq_true_eq] at h
  obtain ⟨⟨⟨⟨rfl, h1⟩, rfl⟩, h2⟩, h3⟩ := h
  cases ln <;> exact ⟨_, _, _, _, _, rfl, h1, h2, h3⟩
theorem i_rev {own : Bool} {a : ME} (h : cE N sc (.rev own a) e = true) : ∃ x j p1 p2 p3 p, e = .Subscript x (.Slice none none (some (.UnaryOp .USub (.Constant (.int 1) j p1) p2)) p3) p ∧ cE N sc a x = true := by
  cases e <;> first | (cases h; done) | skip
  rename_i x y p
  have h' : (revE y && cE N sc a x) = true := h
  rw [Bool.and_eq_true] at h'
  obtain ⟨h1, h2⟩ := h'
  unfold revE at h1
  split at h1
  · rename_i i j p1 p2 p3
    obtain rfl : i = 1 := of_decide_eq_true h1
    exact ⟨x, j, p1, p2, p3, p, rfl, h2⟩
  · cases h1
theorem i_cons {m : ME} {as : MA} {es : List PySem.Expr} (h : cA N sc (.cons m as) es = true) : ∃ x r, es = x :: r ∧ cE N sc m x = true ∧ cA N sc as r = true := by
  cases es with
  | nil => cases h
  | cons x r =>
    have h' : (cE N sc m x && cA N sc as r) = true := h
    rw [Bool.and_eq_true] at h'
    exact ⟨x, r, rfl, h'.1, h'.2⟩
theorem i_nil {es : List PySem.Expr} (h : cA N sc .nil es = true) : es = [] := by
  cases es with
  | nil => rfl
  | cons x r => cases h
/-- what is walked -/
theorem i_it {ik : ItK} {as : MA} {e : PySem.Expr} {tu : Bool} (h : cI N sc ik as e tu = true) : (ik = .seq ∧ ∃ m, as = .cons m .nil ∧ cE N sc m e = true) ∨
    (ik = .rng1 ∧ ∃ a p q, e = .Call (.Name "range" p) [a] [] q ∧ glE sc "range" = true ∧ cA N sc as [a] = true) ∨
    (ik = .rng2 ∧ ∃ a b p q, e = .Call (.Name "range" p) [a, b] [] q ∧ glE sc "range" = true ∧ cA N sc as [a, b] = true) ∨
    (ik = .enum ∧ tu = true ∧ ∃ a p q, e = .Call (.Name "enumerate" p) [a] [] q ∧ glE sc "enumerate" = true ∧ cA N sc as [a] = true) ∨
    (ik = .zip ∧ tu = true ∧ ∃ a b p q, e = .Call (.Name "zip" p) [a, b] [] q ∧ glE sc "zip" = true ∧ cA N sc as [a, b] = true) := by
  unfold cI at h
  split at h
  · exact .inl ⟨rfl, _, rfl, h⟩
  · simp only [Bool.and_eq_true, decide_eq_true_eq] at h
    obtain ⟨⟨rfl, h1⟩, h2⟩ := h
    exact .inr (.inl ⟨rfl, _, _, _, rfl, h1, by show (cE N sc _ _ && true) = true; rw [h2]; rfl⟩)
  · simp only [Bool.and_eq_true, decide_eq_true_eq] at h
    obtain ⟨⟨⟨rfl, h1⟩, h2⟩, h3⟩ := h
    exact .inr (.inr (.inl ⟨rfl, _, _, _, _, rfl, h1, by show (cE N sc _ _ && (cE N sc _ _ && true)) = true; rw [h2, h3]; rfl⟩))
  · simp only [Bool.and_eq_true, decide_eq_true_eq] at h
    obtain ⟨⟨⟨h0, rfl⟩, h1⟩, h2⟩ := h
    exact .inr (.inr (.inr (.inl ⟨rfl, h0, _, _, _, rfl, h1, by show (cE N sc _ _ && true) = true; rw [h2]; rfl⟩)))
  · simp only [Bool.and_eq_true, decide_eq_true_eq] at h
    obtain ⟨⟨⟨⟨h0, rfl⟩, h1⟩, h2⟩, h3⟩ := h
    exact .inr (.inr (.inr (.inr ⟨rfl, h0, _, _, _, _, rfl, h1, by show (cE N sc _ _ && (cE N sc _ _ && true)) = true; rw [h2, h3]; rfl⟩)))
  · cases h
end
/-! ### the mutual theorem -/
mutual
theorem sE : ∀ (m : ME) {sc rs : Scope} {X : Cx} {e : PySem.Expr}, cE N sc m e = true → Good C g k N sc rs X → PE X e (LE X.K (wE C g m))
  | .var i x, sc, rs, X, e, h, G => by
    obtain ⟨p, rfl, h1⟩ := i_var h
    exact se_var G h1
  | .cst c, sc, rs, X, e, h, G => by
    obtain ⟨j, p, rfl⟩ := i_cst h
    exact se_cst
  | .glob x, sc, rs, X, e, h, G => by
    obtain ⟨p, rfl, h1⟩ := i_glob h
    exact se_glob G h1
  | .tup as, sc, rs, X, e, h, G => by
    obtain ⟨es, n, p, rfl, h1⟩ := i_tup h
    exact se_tup (sA as h1 G)
  | .lst own as, sc, rs, X, e, h, G => by
    obtain ⟨es, p, rfl, h1⟩ := i_lst h
    exact se_lst (sA as h1 G)
  | .bin o own a b, sc, rs, X, e, h, G => by
    obtain ⟨l, r, p, rfl, h1, h2⟩ := i_bin h
    exact se_bin (sE a h1 G) (sE b h2 G)
  | .cmp o a b, sc, rs, X, e, h, G => by
    obtain ⟨l, r, p, rfl, h1, h2⟩ := i_cmp h
    exact se_cmp G (sE a h1 G) (sE b h2 G) (pl_of h2 G.sup)
  | .neg a, sc, rs, X, e, h, G => by
    obtain ⟨x, p, rfl, h1⟩ := i_neg h
    exact se_neg (sE a h1 G)
  | .and a b, sc, rs, X, e, h, G => by
    obtain ⟨x, y, r, p, rfl, h1, ⟨rfl, h2⟩ | ⟨z, t, rfl, h2⟩⟩ := i_and h
    · exact se_and (sE a h1 G) (pe_one (sE b h2 G))
    · exact se_and (sE a h1 G) (sE b h2 G)
  | .or a b, sc, rs, X, e, h, G => by
    obtain ⟨x, y, r, p, rfl, h1, ⟨rfl, h2⟩ | ⟨z, t, rfl, h2⟩⟩ := i_or h
    · exact se_or (sE a h1 G) (pe_one (sE b h2 G))
    · exact se_or (sE a h1 G) (sE b h2 G)
  | .not a, sc, rs, X, e, h, G => by
    obtain ⟨x, p, rfl, h1⟩ := i_not h
    exact se_not (sE a h1 G)
  | .idx a i, sc, rs, X, e, h, G => by
    obtain ⟨x, y, p, rfl, h1, h2⟩ := i_idx h
    exact se_idx G (sE a h1 G) (sE i h2 G) (pl_of h2 G.sup)
  | .sl own a lo hi, sc, rs, X, e, h, G => by
    obtain ⟨x, l, r, p2, p, rfl, h1, h2, h3⟩ := i_sl h
    exact se_sl (sE a h1 G) (sO lo h2 G) (sO hi h3 G)
  | .rev own a, sc, rs, X, e, h, G => by
    obtain ⟨x, j, p1, p2, p3, p, rfl, h1⟩ := i_rev h
    exact se_rev (sE a h1 G)
  | .call f as, sc, rs, X, e, h, G => by
    obtain ⟨es, p, q, rfl, h1, h2, h3⟩ := i_call h
    exact se_call G h2 h1 (sA as h3 G) h3
  | .bi f own as, sc, rs, X, e, h, G => by
    obtain ⟨es, p, q, rfl, h1, h2⟩ := i_bi h
    exact se_bi G h1 (sA as h2 G) h2
  | .callv i x as, sc, rs, X, e, h, G => by
    obtain ⟨es, p, q, rfl, h1, h2, h3⟩ := i_callv h
    exact se_callv G h1 h2 (sA as h3 G) h3
  | .mt m own a as, sc, rs, X, e, h, G => by
    obtain ⟨o, es, ap, q, rfl, h1, h2, h3, h4, h5⟩ := i_mt h
    exact se_mt G h1 h2 h3 (sE a h4 G) (pl_of h4 G.sup) (sA as h5 G) h5
  | .lc own ow elt t ik ia c, sc, rs, X, e, h, G => by
    obtain ⟨x, tg, iter, ifs, scope, p, rfl, h1, h2, h3, h4, h5, h6⟩ := i_lc h
    have hb := blkOk_by h1
    obtain ⟨hi, hf⟩ := sI ia h4 G
    have Gb := fun s H Cc cl fp => G.blk scope s H Cc cl fp hb.kind
    exact PE.imp (pe_lc G.calm (by rw [G.nN]; exact G.nd) hi (by rw [G.nN, G.sc]; exact hb) (fun s H Cc cl fp => sg (Gb s H Cc cl fp) h3) (fun s H Cc cl fp => sC c h5 (Gb s H Cc cl fp)) (fun s H Cc cl fp => sE elt h6 (Gb s H Cc cl fp)) hf)
      (se_lc G hb h2 hi hf (fun s H Cc cl fp => sg (Gb s H Cc cl fp) h3) (fun s H Cc cl fp => sC c h5 (Gb s H Cc cl fp)) (fun s H Cc cl fp => sE elt h6 (Gb s H Cc cl fp)))
  | .dnew tk, sc, rs, X, e, h, G => by
    obtain ⟨p, rfl⟩ := i_dnew h
    exact se_dnew
  | .setT ln own a, sc, rs, X, e, h, G => by
    obtain ⟨x, p1, p2, p3, p, rfl, h1, h2, h3⟩ := i_setT h
    exact se_setT G h1 h2 (sE a h3 G) (pl_of h3 G.sup)
theorem sT : ∀ (m : ME) {sc rs : Scope} {X : Cx} {e : PySem.Expr}, cE N sc m e = true → tM m = true → Good C g k N sc rs X → PT X e (LT X.K (wT C g m))
  | .not a, sc, rs, X, e, h, ht, G => by
    obtain ⟨x, p, rfl, h1⟩ := i_not h
    exact st_not (sT a h1 ht G)
  | .and a b, sc, rs, X, e, h, ht, G => by
    have ht' : tM a = true ∧ tM b = true := by
      rw [← Bool.and_eq_true]
      exact ht
    obtain ⟨x, y, r, p, rfl, h1, ⟨rfl, h2⟩ | ⟨z, t, rfl, h2⟩⟩ := i_and h
    · exact PW.pt (sw_and (sT a h1 ht'.1 G) (sw_one (sT b h2 ht'.2 G)))
    · exact PW.pt (sw_and (sT a h1 ht'.1 G) (sW b h2 ht'.2 G))
  | .or a b, sc, rs, X, e, h, ht, G => by
    have ht' : tM a = true ∧ tM b = true := by
      rw [← Bool.and_eq_true]
      exact ht
    obtain ⟨x, y, r, p, rfl, h1, ⟨rfl, h2⟩ | ⟨z, t, rfl, h2⟩⟩ := i_or h
    · exact PW.pt (sw_or (sT a h1 ht'.1 G) (sw_one (sT b h2 ht'.2 G)))
    · exact PW.pt (sw_or (sT a h1 ht'.1 G) (sW b h2 ht'.2 G))
  | .cmp o a b, sc, rs, X, e, h, _, G => by
    obtain ⟨l, r, p, rfl, h1, h2⟩ := i_cmp h
    exact st_cmp G (sE a h1 G) (sE b h2 G) (pl_of h2 G.sup)
  | .call f as, sc, rs, X, e, h, _, G => by
    obtain ⟨es, p, q, rfl, h1, h2, h3⟩ := i_call h
    exact st_val (se_call G h2 h1 (sA as h3 G) h3) (pl_of h G.sup) rfl
  | .bi f own as, sc, rs, X, e, h, _, G => by
    obtain ⟨es, p, q, rfl, h1, h2⟩ := i_bi h
    exact st_val (se_bi G h1 (sA as h2 G) h2) (pl_of h G.sup) rfl
  | .callv i x as, sc, rs, X, e, h, _, G => by
    obtain ⟨es, p, q, rfl, h1, h2, h3⟩ := i_callv h
    exact st_val (se_callv G h1 h2 (sA as h3 G) h3) (pl_of h G.sup) rfl
  | .var i x, sc, rs, X, e, h, _, G => by
    obtain ⟨p, rfl, h1⟩ := i_var h
    exact st_val (se_var G h1) rfl rfl
  | .cst c, sc, rs, X, e, h, _, G => by
    obtain ⟨j, p, rfl⟩ := i_cst h
    exact st_val se_cst rfl rfl
  | .idx a i, sc, rs, X, e, h, _, G => by
    obtain ⟨x, y, p, rfl, h1, h2⟩ := i_idx h
    exact st_val (se_idx G (sE a h1 G) (sE i h2 G) (pl_of h2 G.sup)) rfl rfl
  | .mt m own a as, sc, rs, X, e, h, _, G => by
    obtain ⟨o, es, ap, q, rfl, h1, h2, h3, h4, h5⟩ := i_mt h
    exact st_val (se_mt G h1 h2 h3 (sE a h4 G) (pl_of h4 G.sup) (sA as h5 G) h5) (pl_of h G.sup) rfl
  | .glob x, sc, rs, X, e, h, _, G => by
    obtain ⟨p, rfl, h1⟩ := i_glob h
    exact st_val (se_glob G h1) rfl rfl
  | .tup as, sc, rs, X, e, h, _, G => by
    obtain ⟨es, n, p, rfl, h1⟩ := i_tup h
    exact st_val (se_tup (sA as h1 G)) rfl rfl
  | .lst own as, sc, rs, X, e, h, _, G => by
    obtain ⟨es, p, rfl, h1⟩ := i_lst h
    exact st_val (se_lst (sA as h1 G)) rfl rfl
  | .bin o own a b, sc, rs, X, e, h, _, G => by
    obtain ⟨l, r, p, rfl, h1, h2⟩ := i_bin h
    exact st_val (se_bin (sE a h1 G) (sE b h2 G)) rfl rfl
  | .neg a, sc, rs, X, e, h, _, G => by
    obtain ⟨x, p, rfl, h1⟩ := i_neg h
    exact st_val (se_neg (sE a h1 G)) rfl rfl
  | .sl own a lo hi, sc, rs, X, e, h, _, G => by
    obtain ⟨x, l, r, p2, p, rfl, h1, h2, h3⟩ := i_sl h
    exact st_val (se_sl (sE a h1 G) (sO lo h2 G) (sO hi h3 G)) rfl rfl
  | .rev own a, sc, rs, X, e, h, _, G => by
    obtain ⟨x, j, p1, p2, p3, p, rfl, h1⟩ := i_rev h
    exact st_val (se_rev (sE a h1 G)) rfl rfl
  | .dnew tk, sc, rs, X, e, h, _, G => by
    obtain ⟨p, rfl⟩ := i_dnew h
    exact st_val se_dnew rfl rfl
  | .setT ln own a, sc, rs, X, e, h, _, G => by
    obtain ⟨x, p1, p2, p3, p, rfl, h1, h2, h3⟩ := i_setT h
    exact st_val (se_setT G h1 h2 (sE a h3 G) (pl_of h3 G.sup)) (show (((if ln then "len" else "sorted") : PySem.Str) != "super") = true by cases ln <;> decide +kernel) rfl
  | .lc own ow elt t ik ia c, sc, rs, X, e, h, _, G => by
    obtain ⟨x, tg, iter, ifs, scope, p, rfl, h1, h2, h3, h4, h5, h6⟩ := i_lc h
    have hb := blkOk_by h1
    obtain ⟨hi, hf⟩ := sI ia h4 G
    have Gb := fun s H Cc cl fp => G.blk scope s H Cc cl fp hb.kind
    exact st_val (PE.imp (pe_lc G.calm (by rw [G.nN]; exact G.nd) hi (by rw [G.nN, G.sc]; exact hb) (fun s H Cc cl fp => sg (Gb s H Cc cl fp) h3) (fun s H Cc cl fp => sC c h5 (Gb s H Cc cl fp)) (fun s H Cc cl fp => sE elt h6 (Gb s H Cc cl fp)) hf)
      (se_lc G hb h2 hi hf (fun s H Cc cl fp => sg (Gb s H Cc cl fp) h3) (fun s H Cc cl fp => sC c h5 (Gb s H Cc cl fp)) (fun s H Cc cl fp => sE elt h6 (Gb s H Cc cl fp)))) rfl rfl
theorem sW : ∀ (m : ME) {sc rs : Scope} {X : Cx} {o : BoolOp} {es : List PySem.Expr} {pos : Pos}, cE N sc m (.BoolOp o es pos) = true → tM m = true → Good C g k N sc rs X → PW X (.BoolOp o es pos) (LT X.K (wT C g m))
  | .and a b, sc, rs, X, o, es, pos, h, ht, G => by
    have ht' : tM a = true ∧ tM b = true := by
      rw [← Bool.and_eq_true]
      exact ht
    obtain ⟨x, y, r, p, e, h1, ⟨rfl, h2⟩ | ⟨z, t, rfl, h2⟩⟩ := i_and h
    · cases e
      exact sw_and (sT a h1 ht'.1 G) (sw_one (sT b h2 ht'.2 G))
    · cases e
      exact sw_and (sT a h1 ht'.1 G) (sW b h2 ht'.2 G)
  | .or a b, sc, rs, X, o, es, pos, h, ht, G => by
    have ht' : tM a = true ∧ tM b = true := by
      rw [← Bool.and_eq_true]
      exact ht
    obtain ⟨x, y, r, p, e, h1, ⟨rfl, h2⟩ | ⟨z, t, rfl, h2⟩⟩ := i_or h
    · cases e
      exact sw_or (sT a h1 ht'.1 G) (sw_one (sT b h2 ht'.2 G))
    · cases e
      exact sw_or (sT a h1 ht'.1 G) (sW b h2 ht'.2 G)
  | .var _ _, _, _, _, _, _, _, h, _, _ => by cases h
  | .cst _, _, _, _, _, _, _, h, _, _ => by cases h
  | .glob _, _, _, _, _, _, _, h, _, _ => by cases h
  | .tup _, _, _, _, _, _, _, h, _, _ => by cases h
  | .lst _ _, _, _, _, _, _, _, h, _, _ => by cases h
  | .bin _ _ _ _, _, _, _, _, _, _, h, _, _ => by cases h
  | .cmp _ _ _, _, _, _, _, _, _, h, _, _ => by cases h
  | .neg _, _, _, _, _, _, _, h, _, _ => by cases h
  | .not _, _, _, _, _, _, _, h, _, _ => by cases h
  | .idx _ _, _, _, _, _, _, _, h, _, _ => by cases h
  | .sl _ _ _ _, _, _, _, _, _, _, h, _, _ => by cases h
  | .rev _ _, _, _, _, _, _, _, h, _, _ => by cases h
  | .call _ _, _, _, _, _, _, _, h, _, _ => by cases h
  | .bi _ _ _, _, _, _, _, _, _, h, _, _ => by cases h
  | .callv _ _ _, _, _, _, _, _, _, h, _, _ => by cases h
  | .mt _ _ _ _, _, _, _, _, _, _, h, _, _ => by cases h
  | .lc _ _ _ _ _ _ _, _, _, _, _, _, _, h, _, _ => by cases h
  | .dnew _, _, _, _, _, _, _, h, _, _ => by cases h
  | .setT _ _ _, _, _, _, _, _, _, h, _, _ => by cases h
theorem sA : ∀ (as : MA) {sc rs : Scope} {X : Cx} {es : List PySem.Expr}, cA N sc as es = true → Good C g k N sc rs X → PA X es (LA X.K (wA C g as))
  | .nil, sc, rs, X, es, h, G => by
    rw [i_nil h]
    exact sa_nil
  | .cons m as, sc, rs, X, es, h, G => by
    obtain ⟨x, r, rfl, h1, h2⟩ := i_cons h
    exact sa_cons (sE m h1 G) (sA as h2 G) (pl_of h1 G.sup)
theorem sO : ∀ (o : MO) {sc rs : Scope} {X : Cx} {e : Option PySem.Expr}, cO N sc o e = true → Good C g k N sc rs X → PO X e (LO X.K (wO C g o))
  | .none, sc, rs, X, e, h, G => by
    cases e with
    | none => exact so_none
    | some x => cases h
  | .some m, sc, rs, X, e, h, G => by
    cases e with
    | none => cases h
    | some x => exact so_some (sE m h G)
theorem sC : ∀ (o : MO) {sc rs : Scope} {X : Cx} {es : List PySem.Expr}, cC N sc o es = true → Good C g k N sc rs X → PTs X es (LT X.K (wC C g o))
  | .none, sc, rs, X, es, h, G => by
    match es, h with
    | [], _ => exact sc_none
    | _ :: _, h => cases h
  | .some m, sc, rs, X, es, h, G => by
    match es, h with
    | [], h => cases h
    | [x], h =>
      have h' : (tM m && cE N sc m x) = true := h
      rw [Bool.and_eq_true] at h'
      exact sc_some (sT m h'.2 h'.1 G)
    | _ :: _ :: _, h => cases h
theorem sI : ∀ (as : MA) {ik : ItK} {sc rs : Scope} {X : Cx} {e tg : PySem.Expr}, cI N sc ik as e (tupE tg) = true → Good C g k N sc rs X → PI X tg e (LI X.K fun ρ S q => wA C g as ρ S fun vs S1 => itS ik vs S1 fun l => q l S1) ∧ ∀ x, foldedSetIterable e X.env x = pure x
  | .nil, ik, sc, rs, X, e, tg, h, G => by
    rcases i_it h with ⟨rfl, m, h0, _⟩ | ⟨rfl, a, p, q, rfl, h1, h2⟩ | ⟨rfl, a, b, p, q, rfl, h1, h2⟩ | ⟨rfl, ht, a, p, q, rfl, h1, h2⟩ | ⟨rfl, ht, a, b, p, q, rfl, h1, h2⟩
    · cases h0
    · cases h2
    · cases h2
    · cases h2
    · cases h2
  | .cons m as, ik, sc, rs, X, e, tg, h, G => by
    rcases i_it h with ⟨rfl, m', h0, h1⟩ | ⟨rfl, a, p, q, rfl, h1, h2⟩ | ⟨rfl, a, b, p, q, rfl, h1, h2⟩ | ⟨rfl, ht, a, p, q, rfl, h1, h2⟩ | ⟨rfl, ht, a, b, p, q, rfl, h1, h2⟩
    · cases h0
      exact ⟨si_seq (sE m h1 G), pl_fold (pl_of h1 G.sup) X.env⟩
    · obtain ⟨x, r, e1, h3, h4⟩ := i_cons h2
      cases e1
      exact ⟨si_rng1 G h1 (sa_cons (sE m h3 G) (sA as h4 G) (pl_of h3 G.sup)) (pl_of h3 G.sup), fun _ => rfl⟩
    · obtain ⟨x, r, e1, h3, h4⟩ := i_cons h2
      cases e1
      have hb : plE b = true := by
        match as, h4 with
        | .cons m2 as2, h4 =>
          obtain ⟨x, r, e1, h5, h6⟩ := i_cons h4
          cases e1
          exact pl_of h5 G.sup
        | .nil, h4 => cases h4
      exact ⟨si_rng2 G h1 (sa_cons (sE m h3 G) (sA as h4 G) (pl_of h3 G.sup)) (pl_of h3 G.sup) hb, fun _ => rfl⟩
    · obtain ⟨x, r, e1, h3, h4⟩ := i_cons h2
      cases e1
      exact ⟨si_enum G h1 (sa_cons (sE m h3 G) (sA as h4 G) (pl_of h3 G.sup)) (pl_of h3 G.sup) ht, fun _ => rfl⟩
    · obtain ⟨x, r, e1, h3, h4⟩ := i_cons h2
      cases e1
      have hb : plE b = true := by
        match as, h4 with
        | .cons m2 as2, h4 =>
          obtain ⟨x, r, e1, h5, h6⟩ := i_cons h4
          cases e1
          exact pl_of h5 G.sup
        | .nil, h4 => cases h4
      exact ⟨si_zip G h1 (sa_cons (sE m h3 G) (sA as h4 G) (pl_of h3 G.sup)) (pl_of h3 G.sup) hb ht, fun _ => rfl⟩
end
end
end Sy

namespace Sy
open PySem PySem.Spec PyProof.Rows L2
/-! ### a lambda is made -/
section
variable {X : Cx} {pins : List (Addr × Obj)} {σ : L2.St} {H : Hp} {s : Shared}
theorem lam_make {c P : Addr} {ps : Array Value} {qn : PySem.Str} {params : Arguments} {body : PySem.Expr} {scope : Scope} {pos : Pos} {E : Value → Shared → Prop} {Q : Value → Shared → Prop} (I : Inv X pins σ H s) (TB : LamX.TabB X.base X.mg c P) (hcode : X.env.code = .ref c)
    (hq : X.env.qual ++ "<lambda>" = qn) (hP : H P = some (.tbl ps)) (ht : TriplesOk ps.toList) (ha : ∀ (pos : Pos) (cv : Value), codeAmong pos ps.toList = some cv → ∃ c, cv = .ref c ∧ H c = some (LamX.CodeO c qn))
    (hdef : defaultsOf params X.env = ([], [])) (hfree : ∀ y ∈ scope.names, y.2 = .free → ∃ c, X.env.cells.lookup y.1 = some c)
    (miss : ∀ (f c' : Addr) (pm ctv : Value) (more : Array Value) (s' : Shared), Inv X pins σ (upd (upd H P (.tbl (ps ++ more))) c' (LamX.CodeO c' qn)) s' → H c' = none → TriplesOk (ps ++ more).toList →
      (∀ (p' : Pos) (cv : Value), codeAmong p' (ps ++ more).toList = some cv → codeAmong p' ps.toList = some cv ∨ cv = .ref c') →
      s'.heap.get? f = some (PySem.W.kla_obj "<lambda>" qn params body scope (cloFrom X.env.cells scope.names []) pm c' ctv) → upd (upd H P (.tbl (ps ++ more))) c' (LamX.CodeO c' qn) f = none → f ∉ frs X.stack → Q (.ref f) s')
    (hit : ∀ (f c' : Addr) (pm ctv : Value) (s' : Shared), Inv X pins σ H s' → H c' = some (LamX.CodeO c' qn) → codeAmong pos ps.toList = some (.ref c') →
      s'.heap.get? f = some (PySem.W.kla_obj "<lambda>" qn params body scope (cloFrom X.env.cells scope.names []) pm c' ctv) → H f = none → f ∉ frs X.stack → Q (.ref f) s') :
    wpAny (model X.prog X.w) X.A (eval (.Lambda params body scope pos) X.env) Q E s := by
  refine PySem.W.kla_eval hdef ?_
  rw [hq]
  have bP : s.heap.BuiltinsAt X.mg P := TB.bm.keeps I.bk
  have hP' : s.heap.get? P = some { cls := .none, data := .fields ps } := I.hok P _ hP
  have nofr : ∀ f, s.heap.objs.size ≤ f → f ∉ frs X.stack := fun f hf z => by
    rcases List.mem_cons.mp (I.stkSub _ z) with e | e
    · have h1 := I.lt
      rw [← e] at h1
      exact Nat.lt_irrefl _ (Nat.lt_of_lt_of_le h1 hf)
    · exact I.nofs hf e
  cases hc : codeAmong pos ps.toList with
  | none =>
    refine PySem.W.kla_makeFunction (mg := X.mg) (c := c) (P := P) (ps := ps) (closure_ok hfree) I.ok.glob (I.mod.glob.keeps I.bk) hcode (TB.code.keeps I.bk) hP' ht hc TB.gP bP fun c' ctv h' tk hx hge hlt hrec htb => ?_
    obtain ⟨c2, oc, vs, t, e2, hoc, hd, hv⟩ := hrec
    cases e2
    have hsz : s.heap.objs.size ≤ h'.objs.size := Nat.le_trans hge (Nat.le_of_lt hlt)
    have nC : H c' = none := I.hok.fresh hge
    have I1 := LamX.inv_table (t' := tk) (more := #[rawInt pos.line, rawInt pos.col, .ref c']) (h' := h'.push (PySem.W.kla_obj "<lambda>" qn params body scope (cloFrom X.env.cells scope.names []) ((X.mg "__name__").getD .none) c' ctv)) I hP
      (fun b o hb e => Heap.get?_push_of_some _ (hx b o hb e)) (Heap.get?_push_of_some _ htb) hge ⟨oc, vs, t, Heap.get?_push_of_some _ hoc, hd, hv⟩
    have eL : (ps ++ #[rawInt pos.line, rawInt pos.col, .ref c']).toList = ps.toList ++ [rawInt pos.line, rawInt pos.col, .ref c'] := by simp
    refine miss h'.objs.size c' ((X.mg "__name__").getD .none) ctv _ _ I1 nC (by rw [eL]; exact PySem.TriplesOk_snoc _ _ _ _ ht) (fun p' cv h => ?_) (Heap.get?_push_size _ rfl) ?_ (nofr _ hsz)
    · rw [eL] at h
      exact LamX.among_app _ ht h
    · have n1 : h'.objs.size ≠ c' := Nat.ne_of_gt hlt
      have n2 : h'.objs.size ≠ P := Nat.ne_of_gt (Nat.lt_of_lt_of_le (Heap.lt_size hP') hsz)
      rw [upd_ne n1, upd_ne n2]
      exact I.hok.fresh hsz
  | some cv =>
    obtain ⟨c', e, hco⟩ := ha pos cv hc
    subst e
    refine PySem.W.kla_makeFunctionHit (mg := X.mg) (c := c) (P := P) (ps := ps) (closure_ok hfree) I.ok.glob (I.mod.glob.keeps I.bk) hcode (TB.code.keeps I.bk) hP' ht hc bP fun ctv h' tk hx hsz => ?_
    have I1 : Inv X pins σ H { s with heap := h'.push (PySem.W.kla_obj "<lambda>" qn params body scope (cloFrom X.env.cells scope.names []) ((X.mg "__name__").getD .none) c' ctv), toks := tk } := I.kept fun b o e => Heap.get?_push_of_some _ (hx b o e)
    exact hit h'.objs.size c' ((X.mg "__name__").getD .none) ctv _ I1 hco hc (Heap.get?_push_size _ rfl) (I.hok.fresh hsz) (nofr _ hsz)
end
section
variable {K : PySem.W.Frag} {F M H : Hp} {S : Sto} {c P c' : Addr} {ps more : Array Value}
theorem Sim.lamMiss (q : Sim K F M S H) (l : LamAt K c P) (hP : H P = some (.tbl ps)) (hc : H c' = none) (ht : TriplesOk (ps ++ more).toList)
    (ha : ∀ (p' : Pos) (cv : Value), codeAmong p' (ps ++ more).toList = some cv → codeAmong p' ps.toList = some cv ∨ cv = .ref c') :
    Same F (upd F c' (LamX.CodeO c' lamQ)) ∧ Sim K (upd F c' (LamX.CodeO c' lamQ)) M S (upd (upd H P (.tbl (ps ++ more))) c' (LamX.CodeO c' lamQ)) := by
  obtain ⟨t1, t2, t3, ps', t4, t5, t6⟩ := q.t c P l
  rw [hP] at t4
  cases t4
  have nP : P ≠ c' := ne_of_none hP hc
  have s1 : Same F (upd F c' (LamX.CodeO c' lamQ)) := Same.new (q.freeF hc)
  refine ⟨s1, fun a o e => ?_, fun a o e => ?_, fun a o e => ?_, fun d P' l' => ?_⟩
  · by_cases ha : a = c'
    · subst ha; rw [upd_same] at e ⊢; exact e
    · rw [upd_ne ha] at e ⊢
      rw [upd_ne (fun z => by rw [z, t1] at e; cases e)]
      exact q.f a o e
  · have ha : a ≠ c' := fun z => by rw [z, q.freeM hc] at e; cases e
    obtain ⟨h1, h2, h3, h4⟩ := q.m a o e
    exact ⟨by rw [upd_ne ha, upd_ne (fun z => by rw [z, t2] at e; cases e)]; exact h1, by rw [upd_ne ha]; exact h2, h3, h4⟩
  · have ha : a ≠ c' := fun z => by rw [z, q.freeS hc] at e; cases e
    obtain ⟨h1, u, h2, h3⟩ := q.s a o e
    exact ⟨by rw [upd_ne ha]; exact h1, u, by rw [upd_ne ha, upd_ne (fun z => by rw [z, t3] at e; cases e)]; exact h2, RepO.mono s1 h3⟩
  · obtain ⟨_, rfl⟩ := l.uniq l'
    refine ⟨by rw [upd_ne nP]; exact t1, t2, t3, ps ++ more, by rw [upd_ne nP, upd_same], ht, fun p' cv hcv => ?_⟩
    rcases ha p' cv hcv with z | z
    · obtain ⟨d, e1, e2, e3, e4⟩ := t6 p' cv z
      exact ⟨d, e1, by rw [upd_ne (ne_of_none e2 hc), upd_ne (fun w => by rw [w, hP] at e2; exact LamX.codeO_ne ps (Option.some.inj e2).symm)]; exact e2, e3, e4⟩
    · exact ⟨c', z, upd_same, q.freeM hc, q.freeS hc⟩
theorem Sim.lamHit (q : Sim K F M S H) (l : LamAt K c P) (hP : H P = some (.tbl ps)) {pos : Pos} (hc : codeAmong pos ps.toList = some (.ref c')) :
    Same F (upd F c' (LamX.CodeO c' lamQ)) ∧ Sim K (upd F c' (LamX.CodeO c' lamQ)) M S H := by
  obtain ⟨t1, t2, t3, ps', t4, t5, t6⟩ := q.t c P l
  rw [hP] at t4
  cases t4
  obtain ⟨d, e1, e2, e3, e4⟩ := t6 pos _ hc
  cases e1
  have s1 : Same F (upd F c' (LamX.CodeO c' lamQ)) := fun a o e => by
    by_cases ha : a = c'
    · subst ha
      have := q.f a o e
      rw [e2] at this
      rw [upd_same]
      exact this
    · rw [upd_ne ha]; exact e
  refine ⟨s1, fun a o e => ?_, fun a o e => ?_, fun a o e => ?_, fun d P' l' => ?_⟩
  · by_cases ha : a = c'
    · subst ha; rw [upd_same] at e; rw [← e]; exact e2
    · rw [upd_ne ha] at e; exact q.f a o e
  · have ha : a ≠ c' := fun z => by rw [z, e3] at e; cases e
    obtain ⟨h1, h2, h3, h4⟩ := q.m a o e
    exact ⟨h1, by rw [upd_ne ha]; exact h2, h3, h4⟩
  · have ha : a ≠ c' := fun z => by rw [z, e4] at e; cases e
    obtain ⟨h1, u, h2, h3⟩ := q.s a o e
    exact ⟨by rw [upd_ne ha]; exact h1, u, h2, RepO.mono s1 h3⟩
  · obtain ⟨_, rfl⟩ := l.uniq l'
    have nP : P ≠ c' := fun w => by rw [← w, hP] at e2; exact LamX.codeO_ne ps (Option.some.inj e2).symm
    exact ⟨by rw [upd_ne nP]; exact t1, t2, t3, ps, hP, t5, t6⟩
end
/-! ### the base that a callee sees: all that no one but the running frames may change -/
open Classical in
noncomputable def hidH (H : Hp) (l : List Addr) : Hp := fun b => if b ∈ l then some (.tbl #[]) else H b
noncomputable def hidF (h : Heap) (H : Hp) (l : List Addr) : Heap := hidT h (hidH H l)
theorem hidH_none {H : Hp} {l : List Addr} {b : Addr} : hidH H l b = none ↔ b ∉ l ∧ H b = none := by
  unfold hidH
  split
  · rename_i h
    simp [h]
  · rename_i h
    simp [h]
theorem hidF_get {h : Heap} {H : Hp} {l : List Addr} {b : Addr} {o : Obj} (e : h.get? b = some o) (n : H b = none) (nl : b ∉ l) : (hidF h H l).get? b = some o := hidT_get e (hidH_none.mpr ⟨nl, n⟩)
theorem of_hidF {h : Heap} {H : Hp} {l : List Addr} {b : Addr} {o : Obj} (e : (hidF h H l).get? b = some o) : h.get? b = some o ∧ H b = none ∧ b ∉ l := by
  obtain ⟨e1, e2⟩ := of_hidT e
  obtain ⟨e3, e4⟩ := hidH_none.mp e2
  exact ⟨e1, e4, e3⟩
section
variable {X : Cx} {pins : List (Addr × Obj)} {σ : L2.St} {H : Hp} {s : Shared}
theorem nofr_base (I : Inv X pins σ H s) {b : Addr} {o : Obj} (e : X.base.get? b = some o) : b ∉ frs X.stack := fun z => by
  rcases List.mem_cons.mp (I.stkSub _ z) with q | q
  · have h1 := I.env0.funs
    rw [q] at e z
    have := (h1.mem z).1
    rw [e] at this
    cases this
  · exact I.ok.nofr e q
theorem hid_ext (I : Inv X pins σ H s) : ∀ b o, X.base.get? b = some o → (hidF s.heap H (frs X.stack)).get? b = some o := fun b o e => hidF_get (I.bk b o e) (I.bs b o e).2 (nofr_base I e)
theorem Mod.keep {K : PySem.W.Frag} {mg : PySem.Str → Option Value} {base base' : Heap} (m : L2.Mod K mg base) (h : ∀ b o, base.get? b = some o → base'.get? b = some o) : L2.Mod K mg base' :=
  ⟨m.kin.keeps h, m.glob.keeps h, let ⟨mb, h1, h2⟩ := m.blt; ⟨mb, h1.keeps h, h2⟩, m.nolimit.keeps h⟩
theorem hid_env0 (I : Inv X pins σ H s) : Env0 X.prog X.w X.K X.mg (hidF s.heap H (frs X.stack)) X.A X.stack s H := by
  have e := I.env0
  refine ⟨e.frames, Mod.keep e.mod (hid_ext I), fun b o h => ?_, Nat.le_of_eq (hidT_size _ _), funFrames_none e.funs fun L hL => ?_, e.frf, e.hok, e.bare⟩
  · obtain ⟨h1, h2, _⟩ := of_hidF h
    exact ⟨h1, h2⟩
  · cases q : (hidF s.heap H (frs X.stack)).get? L with
    | none => rfl
    | some o => exact absurd hL (of_hidF q).2.2
end
/-! ### the lambda's promise -/
theorem fin_okL {K : PySem.W.Frag} {F M H : Hp} {S : Sto} {kq : SK} {Q : VK} (kk : Kk K F M kq Q) {F' : Hp} (e : Same F F') (q : Sim K F' M S H) {x : SV} {v : V} (r : RepV K F' x v) (h : fin kq x S) : Q v H := by
  obtain ⟨S2, y, hs, hf, h2⟩ := h
  exact kk _ S2 H y v (e.trans frzF_same) (q.freeze hs) (hf.rep q r) h2
theorem CellsAt.up {cl : List (PySem.Str × Addr)} {fr : List PySem.Str} {ws : List (Option V)} {base h : Heap} {H0 H : Hp} (C : NdefX.CellsAt cl fr ws base H0) (e : ∀ b o, base.get? b = some o → h.get? b = some o ∧ H b = none) : NdefX.CellsAt cl fr ws h H := by
  have up : ∀ {c v}, base.IsCell c v → h.IsCell c v := fun {c v} ⟨o, ho, hd⟩ => ⟨o, (e _ _ ho).1, hd⟩
  refine ⟨C.len, fun y c hy => ?_, C.inj, fun i y hi => ?_⟩
  · obtain ⟨_, v, o, ho, hd⟩ := C.all y c hy
    exact ⟨(e _ _ ho).2, v, o, (e _ _ ho).1, hd⟩
  · obtain ⟨c, hc, hv⟩ := C.has i y hi
    refine ⟨c, hc, fun v ev => ?_⟩
    obtain ⟨u, ru, z⟩ := hv v ev
    exact ⟨u, ru, up z⟩
theorem lam_binds {K : PySem.W.Frag} {params : Arguments} {ps : List PySem.Str} {qn : PySem.Str} {body : PySem.Expr} {scope : Scope} {cl : List (PySem.Str × Addr)} {pm cd ctv : Value} (h : lamP params ps = true) (h2 : ps = (["one", "row"] : List PySem.Str)) : Binds K (PySem.W.kla_fn "<lambda>" qn params body scope cl pm cd ctv) ps [] := by
  obtain ⟨po, as, va, ko, kd, kw, df⟩ := params
  cases po <;> first | (cases h; done) | skip
  cases va <;> first | (cases h; done) | skip
  cases ko <;> first | (cases h; done) | skip
  cases kd <;> first | (cases h; done) | skip
  cases kw <;> first | (cases h; done) | skip
  cases df <;> first | (cases h; done) | skip
  have h : as.map (fun a => a.arg) = ps := of_decide_eq_true h
  subst h
  rcases as with _ | ⟨a, _ | ⟨b, _ | ⟨c, as⟩⟩⟩
  · exact absurd (congrArg List.length h2) (by simp)
  · exact absurd (congrArg List.length h2) (by simp)
  · refine .all fun us hl => ?_
    rcases us with _ | ⟨u, _ | ⟨v, _ | ⟨c, us⟩⟩⟩
    · cases hl
    · cases hl
    · obtain ⟨an, ann, ap⟩ := a
      obtain ⟨bn, bnn, bp⟩ := b
      have h2 : [an, bn] = (["one", "row"] : List PySem.Str) := h2
      obtain ⟨rfl, h3⟩ := List.cons.inj h2
      obtain ⟨rfl, _⟩ := List.cons.inj h3
      rfl
    · simp at hl
  · exact absurd (congrArg List.length h2) (by simp)
theorem lam_defaults {params : Arguments} {ps : List PySem.Str} {env : Env} (h : lamP params ps = true) : defaultsOf params env = ([], []) := by
  unfold lamP at h
  split at h
  · rfl
  · cases h
end Sy

namespace Sy
open PySem PySem.Spec PyProof.Rows L2
theorem lam_fn {P : Program} {w : World} {K : PySem.W.Frag} {mg : PySem.Str → Option Value} {base : Heap} {p c' : Addr} {params : Arguments} {body : PySem.Expr} {scope : Scope} {cl : List (PySem.Str × Addr)} {pm ctv : Value} {M ps : List PySem.Str} {k2 kg : Nat} {C2 : Cal}
    {g : PySem.Str → Option SV} {m : ME} {cs : List SV} {ws : List V} {N : Ck} (hobj : base.get? p = some (PySem.W.kla_obj "<lambda>" lamQ params body scope cl pm c' ctv)) (S : NdefX.NScope M ps (M.drop ps.length) scope) (hC : NdefX.CellsAt cl (M.drop ps.length) (ws.map some) base (fun _ => none)) (hl : cs.length = ws.length)
    (hG : ∀ X : Cx, X.prog = P → X.w = w → X.K = K → X.mg = mg → X.base = base → X.N = M → X.env.scope = scope → X.calm = true → X.A.handled = none → Room k2 X.A → Good C2 g kg N scope scope X) (hc : cE N scope m body = true) :
    FnOk P w K mg base CX0 (k2 + 1) p (PySem.W.kla_fn "<lambda>" lamQ params body scope cl pm (.ref c') ctv) ps (fun vs H Q E => LSp K (fun xs S Q => ∃ us, xs = .lam p c' cs ws :: us ∧ lamR g ps m cs C2 us S Q) (.ref p :: vs) H Q E) := by
  refine ⟨fun vs H Q E h => ?_, fun A outer s H args us vs Q E hr e0 hb r h => ?_⟩
  · obtain ⟨F, M, S, xs, kq, rr, q, ⟨us, rfl, h1, _⟩, _⟩ := h
    have := rr.length
    simp only [List.length_cons] at this
    omega
  · obtain ⟨F, Mm, St, xs, kq, rr, q, ⟨xs', rfl, h1, h2⟩, kk⟩ := h
    obtain ⟨v0, vs', e1, rl, rx⟩ := rr
    cases e1
    obtain ⟨_, rc, rcs⟩ := rl
    have hlx := rx.length
    have hvl : vs.length = ps.length := by omega
    have hcode := NdefX.codeO_at e0.hok (q.f _ _ rc)
    have C := CellsAt.up hC e0.bs
    have lim : s.heap.NoLimit := e0.mod.nolimit.keeps fun b o e => (e0.bs b o e).1
    have MN : M.length = ps.length + (M.drop ps.length).length := by
      have hpl := congrArg List.length S.pre
      rw [List.length_take, List.length_append] at hpl
      rw [List.length_drop] at hpl ⊢
      omega
    refine PySem.W.kla_callFunE hr.depth (e0.bs _ _ hobj).1 rfl S.co S.gen rfl hcode ?_
    refine hb _ _ _ _ ?_
    refine wpAny_newFunctionEnv S.nocell (fun ⟨n, _⟩ hy => S.par n (List.of_mem_zip hy).1) (fun h₁ hns hsb => ⟨lim.fresh _ hsb, ?_⟩) S.kind
    have kp : ∀ b o, s.heap.get? b = some o → h₁.get? b = some o := fun b o e => hsb.extBut b o (Nat.ne_of_lt (Heap.lt_size e)) (Heap.get?_push_of_some _ e)
    show codeAny _ _ (.expr body (NdefX.envF ⟨"<lambda>", lamQ, params, [], scope, cl, c'⟩ p s.heap.objs.size)) _ _
    have I : Inv (NdefX.ncx CX0 P w K mg base M ⟨"<lambda>", lamQ, params, [], scope, cl, c'⟩ p A outer s H E) [] (NdefX.startF M vs (ws.map some)) H { s with heap := h₁, toks := s.toks + (ps.zip us).length } :=
      NdefX.inv_startN (F := ⟨"<lambda>", lamQ, params, [], scope, cl, c'⟩) S hr.hd e0 hvl r C hns kp
    have G := hG (NdefX.ncx CX0 P w K mg base M ⟨"<lambda>", lamQ, params, [], scope, cl, c'⟩ p A outer s H E) rfl rfl rfl rfl rfl rfl rfl rfl hr.hd (hr.deeper _)
    have LEc : LE K (wE C2 g m) (NdefX.startF M vs (ws.map some)) H Q := by
      refine ⟨F, Mm, St, _, _, ?_, q, h2, fun F' S' H' x v e q' r' z => fin_okL kk e q' r' z⟩
      have hcl := C.len
      rw [List.length_map] at hcl
      refine ⟨?_, fun i x e => ?_⟩
      · unfold NdefX.startF
        simp only [List.length_append, List.length_map, List.length_replicate]
        omega
      · unfold NdefX.startF
        by_cases hi : i < xs'.length
        · rw [List.getElem?_append_left (by simpa using hi), List.getElem?_map] at e
          obtain ⟨y, e1, e2⟩ := Option.map_eq_some_iff.mp e
          cases e2
          obtain ⟨v, g1, g2⟩ := RepL.get rx e1
          exact ⟨v, by rw [List.getElem?_append_left (by simp; omega), List.getElem?_map, g1]; rfl, g2⟩
        · rw [List.getElem?_append_right (by simp; omega), List.getElem?_map] at e
          obtain ⟨y, e1, e2⟩ := Option.map_eq_some_iff.mp e
          cases e2
          obtain ⟨v, g1, g2⟩ := RepL.get rcs e1
          refine ⟨v, ?_, g2⟩
          have hw := (List.getElem?_eq_some_iff.mp g1).1
          rw [List.length_map] at hw g1
          rw [List.getElem?_append_right (by simp; omega), List.getElem?_append_left (by simp; omega), List.getElem?_map, List.length_map, ← hlx, g1]
          rfl
    refine PySem.W.kla_codeExpr (wpAny_mono ((sE m hc G).run [] _ _ H Q I LEc) (fun v s' hq => ?_) fun e s' hq => hq)
    obtain ⟨w', H', J', rv, q'⟩ := hq
    exact ⟨w', H', J'.os, J'.bare, J'.base, J'.hok, rv, q'⟩
end Sy

namespace Sy
open PySem PySem.Spec PyProof.Rows L2
/-! ### a call with a lambda -/
/-- what the def that makes lambdas needs -/
structure LamC (C : Cls) (k : Nat) (N : Ck) (X : Cx) : Prop where
  qn : X.env.qual ++ "<lambda>" = lamQ
  fn : ∀ x, X.fn x = true
  tab : ∃ c P, X.env.code = .ref c ∧ LamAt X.K c P ∧ LamX.TabB X.base X.mg c P
  low : ∀ k2, C.lv = k2 + 2 → ∃ C2 : Cal, ((∀ x S, ¬ C2 "<is lambda>" [x] S fun _ _ => True) ∧ ((∃ f vs S Q, C2 f vs S Q) → 1 ≤ k2)) ∧ ∀ base', (∀ b o, X.base.get? b = some o → base'.get? b = some o) →
    (∀ f ∈ N.T, ∃ a fd ps, X.mg f = some (.ref a) ∧ FnOk X.prog X.w X.K X.mg base' CX0 (2 * k2) a fd ps (LSp X.K (C2 f)) ∧ PySem.W.keepIn X.K (.ref a) = true ∧ Binds X.K fd ps []) ∧
    ∀ f ∈ N.T, ∃ a fd ps, X.mg f = some (.ref a) ∧ PySem.W.keepIn X.K (.ref a) = true ∧ Binds X.K fd ps [] ∧ ∀ (p c' : Addr) (cs : List SV) (ws : List V) (R : Cal → List SV → Sto → SK → Prop), PySem.W.FnAt p base' →
      (∃ fdL psL, FnOk X.prog X.w X.K X.mg base' CX0 (2 * (k2 + 1)) p fdL psL (fun vs H Q E => LSp X.K (fun xs S Q => ∃ us, xs = .lam p c' cs ws :: us ∧ R C2 us S Q) (.ref p :: vs) H Q E) ∧ Binds X.K fdL psL []) →
      FnOk X.prog X.w X.K X.mg base' CX0 k a fd ps (LSp X.K (C.l f (.lam p c' cs ws) R))
theorem capt_rep {K : PySem.W.Frag} {F : Hp} {ρ : Ro} {σ : L2.St} (r : RepR K F ρ σ) : ∀ {js : List Nat} {cs : List SV}, capt ρ js = some cs → ∃ ws : List V, js.map (NdefX.slotAt σ) = ws.map some ∧ RepL K F cs ws
  | [], cs, h => by
    cases (show some [] = some cs from h)
    exact ⟨[], rfl, rfl⟩
  | j :: js, cs, h => by
    have h : ((ρ[j]?).bind fun o => o.bind fun x => (capt ρ js).map fun r => x :: r) = some cs := h
    cases e1 : ρ[j]? with
    | none => rw [e1] at h; cases h
    | some o =>
      rw [e1] at h
      cases o with
      | none => cases h
      | some x =>
        have h : (capt ρ js).map (fun r => x :: r) = some cs := h
        obtain ⟨cs', e2, e3⟩ := Option.map_eq_some_iff.mp h
        subst e3
        obtain ⟨ws, h1, h2⟩ := capt_rep r e2
        obtain ⟨v, hv, rv⟩ := r.2 j x e1
        exact ⟨v :: ws, by rw [List.map_cons, List.map_cons, h1, NdefX.slotAt_of hv], v, ws, rfl, rv, h2⟩
section
variable {C : Cls} {g : PySem.Str → Option SV} {k : Nat} {N : Ck} {sc : Scope} {X : Cx}
theorem cells_base {pins : List (Addr × Obj)} {σ : L2.St} {H : Hp} {s : Shared} {cl : List (PySem.Str × Addr)} {fr : List PySem.Str} {ws : List (Option V)} (I : Inv X pins σ H s) (hfn : ∀ x, X.fn x = true) (C : NdefX.CellsAt cl fr ws s.heap H)
    (hs : ∀ y c, cl.lookup y = some c → X.env.cells.lookup y = some c) : NdefX.CellsAt cl fr ws (hidF s.heap H (frs X.stack)) (fun _ => none) := by
  have nf : ∀ {y c}, cl.lookup y = some c → c ∉ frs X.stack := fun {y c} e z => by
    have e' := hs y c e
    rcases List.mem_cons.mp (I.stkSub _ z) with q | q
    · exact I.cne y c e' q
    · have h1 := I.ok.cab y c (hfn y) e'
      obtain ⟨_, o, ho, _⟩ := I.ok.funs.mem (b := c) q
      exact Nat.lt_irrefl _ (Nat.lt_of_lt_of_le (Heap.lt_size ho) h1)
  have up : ∀ {y c v}, cl.lookup y = some c → s.heap.IsCell c v → (hidF s.heap H (frs X.stack)).IsCell c v := fun {y c v} e ⟨o, ho, hd⟩ => ⟨o, hidF_get ho (C.all y c e).1 (nf e), hd⟩
  refine ⟨C.len, fun y c e => ⟨rfl, ?_⟩, C.inj, fun i y e => ?_⟩
  · obtain ⟨_, v, z⟩ := C.all y c e
    exact ⟨v, up e z⟩
  · obtain ⟨c, hc, hv⟩ := C.has i y e
    refine ⟨c, hc, fun v ev => ?_⟩
    obtain ⟨u, ru, z⟩ := hv v ev
    exact ⟨u, ru, up hc z⟩
theorem pe_clam (G : Good C.c g k N sc sc X) (hlv : 2 * C.lv = k) (L : LamC C k N X) {f : PySem.Str} {a b c body : ME} {M ps : List PySem.Str} {js : List Nat} {e1 e2 e3 e : PySem.Expr} {params : Arguments} {scope : Scope} {p lpos pos : Pos}
    (hf : f ∈ N.T) (hg : glE sc f = true) (h1 : PE X e1 (LE X.K (wE C.c g a))) (p1 : plE e1 = true) (h2 : PE X e2 (LE X.K (wE C.c g b))) (p2 : plE e2 = true) (h3 : PE X e3 (LE X.K (wE C.c g c))) (p3 : plE e3 = true)
    (hp : lamP params ps = true) (hps : ps = (["one", "row"] : List PySem.Str)) (hS : NdefX.nscB M ps (M.drop ps.length) scope = true) (hn : NdefX.ndefB sc scope (M.drop ps.length) = true) (hj : js.map (fun j => N.N[j]?) = (M.drop ps.length).map some) (hc : cE ⟨M, N.T, [], false, []⟩ scope body e = true) :
    PE X (.Call (.Name f p) [e1, e2, e3, .Lambda params e scope lpos] [] pos) (LE X.K fun ρ S kq => 2 ≤ C.lv ∧ wA C.c g (.cons a (.cons b (.cons c .nil))) ρ S fun vs S1 => ∃ cs, capt ρ js = some cs ∧
      ∀ p c' ws, C.l f (.lam p c' cs ws) (lamR g ps body cs) (vs ++ [.lam p c' cs ws]) S1 kq) := by
  refine ⟨fun pins s σ H Q I z => ?_⟩
  obtain ⟨F, Mm, S, ρ, kq, r, q, ⟨hl2, z⟩, kk⟩ := z
  obtain ⟨k2, ek⟩ : ∃ k2, C.lv = k2 + 2 := ⟨C.lv - 2, by omega⟩
  obtain ⟨cA, P, hcode, hLam, TB⟩ := L.tab
  obtain ⟨C2, nol, low⟩ := L.low k2 ek
  obtain ⟨g1, g2, g3⟩ := G.gl_ hg
  obtain ⟨fa, ffd, fps, hm, hk, hb, _⟩ := (low X.base fun _ _ h => h).2 f hf
  have SC := NdefX.nscope_by hS
  have hfree := NdefX.ndef_free hn
  have est : ∀ (es : List PySem.Expr) (x : PySem.Expr), plE x = true → starEach (x :: es) X.env = (false, eval x X.env) :: starEach es X.env := fun es x h => pl_star h es X.env
  have eall : backTo pos (starEach [e1, e2, e3, .Lambda params e scope lpos] X.env) = [(false, eval e1 X.env), (false, eval e2 X.env), (false, eval e3 X.env), (false, eval (.Lambda params e scope lpos) X.env)] := by
    rw [est _ _ p1, est _ _ p2, est _ _ p3]
    rfl
  refine wpAny_Call_Name_kw (ld_glob I g1 hm ?_ g2)
  refine PySem.W.callWith_K (h₀ := X.base) I.ok.mod.kin hk ?_ (est _ _ p1) (by rw [est _ _ p2, est _ _ p3]; rfl)
  rw [eall]
  -- the three arguments
  refine Calls.spliced_cons (thn (h1.run pins s σ H (fun x1 H1 => ∃ F1 S1 y1, Same F F1 ∧ Sim X.K F1 Mm S1 H1 ∧ RepV X.K F1 y1 x1 ∧ wA C.c g (.cons b (.cons c .nil)) ρ S1 fun vs S2 => ∃ cs, capt ρ js = some cs ∧ ∀ p c' ws, C.l f (.lam p c' cs ws) (lamR g ps body cs) ((y1 :: vs) ++ [.lam p c' cs ws]) S2 kq) I ⟨F, Mm, S, ρ, _, r, q, z, fun F' S' H' x v e q' rx z => ⟨F', S', x, e, q', rx, z⟩⟩) fun u1 s1 ⟨x1, H1, I1, r1, F1, S1, y1, sm1, q1, ry1, z1⟩ => ?_)
  refine Calls.spliced_cons (thn (h2.run pins s1 σ H1 (fun x2 H2 => ∃ F2 S2 y2, Same F1 F2 ∧ Sim X.K F2 Mm S2 H2 ∧ RepV X.K F2 y2 x2 ∧ wA C.c g (.cons c .nil) ρ S2 fun vs S3 => ∃ cs, capt ρ js = some cs ∧ ∀ p c' ws, C.l f (.lam p c' cs ws) (lamR g ps body cs) ((y1 :: y2 :: vs) ++ [.lam p c' cs ws]) S3 kq) I1 ⟨F1, Mm, S1, ρ, _, r.mono sm1, q1, z1, fun F' S' H' x v e q' rx z => ⟨F', S', x, e, q', rx, z⟩⟩) fun u2 s2 ⟨x2, H2, I2, r2, F2, S2, y2, sm2, q2, ry2, z2⟩ => ?_)
  refine Calls.spliced_cons (thn (h3.run pins s2 σ H2 (fun x3 H3 => ∃ F3 S3 y3, Same F2 F3 ∧ Sim X.K F3 Mm S3 H3 ∧ RepV X.K F3 y3 x3 ∧ ∃ cs, capt ρ js = some cs ∧ ∀ p c' ws, C.l f (.lam p c' cs ws) (lamR g ps body cs) ([y1, y2, y3] ++ [.lam p c' cs ws]) S3 kq) I2 ⟨F2, Mm, S2, ρ, _, (r.mono sm1).mono sm2, q2, z2, fun F' S' H' x v e q' rx z => ⟨F', S', x, e, q', rx, by unfold wA at z; exact z⟩⟩) fun u3 s3 ⟨x3, H3, I3, r3, F3, S3, y3, sm3, q3, ry3, cs, hcs, z3⟩ => ?_)
  have rr3 : RepR X.K F3 ρ σ := ((r.mono sm1).mono sm2).mono sm3
  obtain ⟨ws, hws, rws⟩ := capt_rep rr3 hcs
  -- what follows, however the lambda's code came
  have tail : ∀ (f' c' : Addr) (pm ctv : Value) (s4 : Shared) (H4 F4 : Hp), Inv X pins σ H4 s4 → Same F3 F4 → Sim X.K F4 Mm S3 H4 → F4 c' = some (LamX.CodeO c' lamQ) →
      s4.heap.get? f' = some (PySem.W.kla_obj "<lambda>" lamQ params e scope (cloFrom X.env.cells scope.names []) pm c' ctv) → H4 f' = none → f' ∉ frs X.stack →
      wpAny (model X.prog X.w) X.A (spliced []) (fun vs s₂ => X.K.In s₂.heap ∧ wpAny (model X.prog X.w) X.A (call (.ref fa) ([] ++ (u1 :: u2 :: u3 :: .ref f' :: vs))) (EP X pins σ Q) X.xe s₂) X.xe s4 := by
    intro f' c' pm ctv s4 H4 F4 I4 sm4 q4 hcF hobj hfn hfr
    refine Calls.spliced_nil ⟨I4.kIn, ?_⟩
    have ext := hid_ext I4
    have e0 := hid_env0 I4
    have hobj' : (hidF s4.heap H4 (frs X.stack)).get? f' = some (PySem.W.kla_obj "<lambda>" lamQ params e scope (cloFrom X.env.cells scope.names []) pm c' ctv) := hidF_get hobj hfn hfr
    obtain ⟨lowf, lowl⟩ := low _ ext
    obtain ⟨fa', fd', ps', hm', _, hb', hF⟩ := lowl f hf
    rw [hm] at hm'
    cases hm'
    have hsc : X.env.scope = sc := G.sc
    have cp : NdefX.Caps X (cloFrom X.env.cells scope.names []) (M.drop ps.length) js := NdefX.Caps.made I4.ok (by rw [hsc]; exact hfree) (NdefX.ndef_fr hn) (by rw [G.nN]; exact hj)
    have cells := cells_base I4 L.fn (NdefX.cells_of I4 cp) cp.sub
    rw [hws] at cells
    have lamOk := lam_fn (g := g) (m := body) (N := ⟨M, N.T, [], false, []⟩) (C2 := C2) (k2 := 2 * k2 + 1) (kg := 2 * k2) (cs := cs) (ws := ws) (P := X.prog) (w := X.w) (K := X.K) (mg := X.mg) hobj' SC cells rws.length (fun Y eP eW eK eM eB eN eS hcalm hhd hroom => by
      refine ⟨hcalm, eN, SC.nd, eS, fun x hx => ?_, hroom.mono (by omega), G.sup, by rw [eM]; exact G.bi, by rw [eM]; exact G.ty, by rw [eM]; exact G.rng, by rw [eM]; exact G.enu, by rw [eM]; exact G.zip, by rw [eM]; exact G.set, by rw [eP, eW, eK, eM, eB]; exact lowf, (fun f c m h => nomatch h), by rw [eK, eM]; exact G.gl, by rw [eM]; exact G.ve,
        (fun c hc => nomatch hc), by rw [eK, eM]; exact G.fv, (fun c fld hc => nomatch hc), (fun c hc => nomatch hc), (fun h => by have := nol.2 h; omega), fun x S h => absurd h (nol.1 x S)⟩
      rw [eS]
      rcases hx with hx | hx
      · exact ⟨.inl hx, .inr hx⟩
      · exact absurd rfl (SC.nocell _ (PySem.mem_of_lookup hx))) hc
    have hF' := hF f' c' cs ws (lamR g ps body cs) ⟨_, _, _, _, hobj'⟩ ⟨_, _, lamOk, lam_binds hp hps⟩
    have spec : LSp X.K (C.l f (.lam f' c' cs ws) (lamR g ps body cs)) [x1, x2, x3, .ref f'] H4 Q E0 := by
      refine ⟨F4, Mm, S3, [y1, y2, y3] ++ [.lam f' c' cs ws], kq, ?_, q4, z3 f' c' ws, kk.mono (((sm1.trans sm2).trans sm3).trans sm4)⟩
      exact ⟨x1, _, rfl, RepV.mono ((sm2.trans sm3).trans sm4) _ _ ry1, x2, _, rfl, RepV.mono (sm3.trans sm4) _ _ ry2, x3, _, rfl, RepV.mono sm4 _ _ ry3, .ref f', _, rfl, ⟨rfl, hcF, RepL.mono sm4 _ _ rws⟩, rfl⟩
    have rv : Vals [x1, x2, x3, .ref f'] [u1, u2, u3, .ref f'] := .cons r1 (.cons r2 (.cons r3 (.cons rfl .nil)))
    refine wpAny_call (codeAny_mono (hF'.run X.A X.stack s4 H4 ⟨[u1, u2, u3, .ref f'], []⟩ [u1, u2, u3, .ref f'] _ Q E0 G.room e0 ?_ rv spec) fun rz s' hq => ?_)
    · have := hb' s4 [u1, u2, u3, .ref f'] I4.kIn (by rw [List.append_nil, ← rv.length]; exact hF'.len _ _ _ _ spec)
      rw [List.append_nil] at this
      exact this
    · cases rz with
      | error e => exact (show False from hq).elim
      | ok fl =>
        cases fl with
        | ret u => exact I4.after hq
        | next => exact False.elim hq
        | brk => exact False.elim hq
        | cont => exact False.elim hq
  refine Calls.spliced_cons ?_
  obtain ⟨t1, t2, t3, tps, t4, t5, t6⟩ := q3.t cA P hLam
  refine lam_make I3 TB hcode L.qn t4 t5 (fun pos cv h => ?_) (lam_defaults hp) (fun y hy ey => ?_) (fun f' c' pm ctv more s4 I4 hc0 ht ha hobj hfn hfr => ?_) (fun f' c' pm ctv s4 I4 hco hca hobj hfn hfr => ?_)
  · obtain ⟨d, w1, w2, _⟩ := t6 pos cv h
    exact ⟨d, w1, w2⟩
  · have hsc : X.env.scope = sc := G.sc
    rcases hfree y hy ey with w | w
    · exact I3.ok.has _ (.inl (by rw [← hsc] at w; exact w))
    · exact I3.ok.has _ (.inr (by rw [← hsc] at w; exact w))
  · obtain ⟨sm4, q4⟩ := q3.lamMiss hLam t4 hc0 ht ha
    exact tail f' c' pm ctv s4 _ _ I4 sm4 q4 upd_same hobj hfn hfr
  · obtain ⟨sm4, q4⟩ := q3.lamHit hLam t4 hca
    exact tail f' c' pm ctv s4 _ _ I4 sm4 q4 upd_same hobj hfn hfr
end
end Sy

namespace Sy
open PySem PySem.Spec PyProof.Rows L2
/-! ### statements -/
/-- an exception's object and its class -/
def RepX (K : PySem.W.Frag) (F : Hp) (e : Ex) (cls : Value) (dx : Option Addr) : Prop := ∃ C, cls = .ref C ∧ ClsK K e.c C ∧ ExF K F dx e.w
theorem RepX.mono {K : PySem.W.Frag} {F F' : Hp} {e : Ex} {cls : Value} {dx : Option Addr} (s : Same F F') (h : RepX K F e cls dx) : RepX K F' e cls dx := by
  obtain ⟨C, h1, h2, h3⟩ := h
  exact ⟨C, h1, h2, h3.mono s⟩
def Kx (K : PySem.W.Frag) (F M : Hp) (ex : XS) (E : XK) : Prop := ∀ F' S' H' e cls dx, Same F F' → Sim K F' M S' H' → RepX K F' e cls dx → ex e S' → E cls dx H'
theorem Kx.mono {K : PySem.W.Frag} {F F' M : Hp} {ex : XS} {E : XK} (e : Same F F') (h : Kx K F M ex E) : Kx K F' M ex E := fun F2 S' H' x c d s q r z => h F2 S' H' x c d (e.trans s) q r z
def LSpX (K : PySem.W.Frag) (c : List SV → Sto → SK → XS → Prop) : Sp := fun vs H Q E => ∃ F M S xs k ex, RepL K F xs vs ∧ Sim K F M S H ∧ c xs S k ex ∧ Kk K F M k Q ∧ Kx K F M ex E
structure EndsOk (K : PySem.W.Frag) (F M : Hp) (W : WX) (ex : XS) (d : SD) (D : Ends) : Prop where
  nx : ∀ F' S' H' ρ σ, Same F F' → Sim K F' M S' H' → RepR K F' ρ σ → d.nx ρ S' → D.nx σ H'
  rt : Kk K F M d.rt D.rt
  bk : ∀ F' S' H' ρ σ, Same F F' → Sim K F' M S' H' → RepR K F' ρ σ → d.bk ρ S' → D.bk σ H'
  ct : ∀ F' S' H' ρ σ, Same F F' → Sim K F' M S' H' → RepR K F' ρ σ → d.ct ρ S' → D.ct σ H'
  x : ∀ σ, Kx K F M ex fun cls dx H' => W cls dx σ H'
theorem EndsOk.mono {K : PySem.W.Frag} {F F' M : Hp} {W : WX} {ex : XS} {d : SD} {D : Ends} (e : Same F F') (h : EndsOk K F M W ex d D) : EndsOk K F' M W ex d D :=
  ⟨fun F2 S' H' ρ σ s q r z => h.nx F2 S' H' ρ σ (e.trans s) q r z, h.rt.mono e, fun F2 S' H' ρ σ s q r z => h.bk F2 S' H' ρ σ (e.trans s) q r z, fun F2 S' H' ρ σ s q r z => h.ct F2 S' H' ρ σ (e.trans s) q r z, fun σ => (h.x σ).mono e⟩
def LS (K : PySem.W.Frag) (W : WX) (ex : XS) (t : SS) : TS := fun D σ H => ∃ F M S ρ d, RepR K F ρ σ ∧ Sim K F M S H ∧ t d ρ S ∧ EndsOk K F M W ex d D
/-- the calls that may raise -/
def FnX (C : Cls) (k : Nat) (N : Ck) (X : Cx) : Prop := 2 * C.lv = k ∧ (∀ f, C.fs f → f ∈ N.T) ∧ (∀ f ∈ N.T, ∃ a fd ps, X.mg f = some (.ref a) ∧ FnOk X.prog X.w X.K X.mg X.base (L2.CX X.prog X.w) k a fd ps (LSpX X.K (C.x f)) ∧ PySem.W.keepIn X.K (.ref a) = true ∧ Binds X.K fd ps []) ∧ (N.L = true → LamC C k N X) ∧
  ∀ f c m, (f, c, m) ∈ N.M → ∃ Ca a fd ps, InsK X.K c Ca ∧ Meth X.K Ca m a ∧ FnOk X.prog X.w X.K X.mg X.base (L2.CX X.prog X.w) k a fd ps (LSpX X.K (C.x f)) ∧ Binds X.K fd ps []
section
variable {C : Cls} {W : WX} {g : PySem.Str → Option SV} {k : Nat} {N : Ck} {sc : Scope} {X : Cx}
theorem ss_pass {pos : Pos} : PS X (.Pass pos) (LS X.K W C.ex (wS C g .pass)) := PS.imp ps_pass fun D σ H z => by
  obtain ⟨F, M, S, ρ, d, r, q, h, kk⟩ := z
  exact kk.nx F S H ρ σ Same.rfl' q r h
theorem ss_brk {pos : Pos} : PS X (.Break pos) (LS X.K W C.ex (wS C g .brk)) := PS.imp ps_break fun D σ H z => by
  obtain ⟨F, M, S, ρ, d, r, q, h, kk⟩ := z
  exact kk.bk F S H ρ σ Same.rfl' q r h
theorem ss_cont {pos : Pos} : PS X (.Continue pos) (LS X.K W C.ex (wS C g .cont)) := PS.imp ps_continue fun D σ H z => by
  obtain ⟨F, M, S, ρ, d, r, q, h, kk⟩ := z
  exact kk.ct F S H ρ σ Same.rfl' q r h
theorem ss_never {st : PySem.Stmt} : PS X st (LS X.K W C.ex (wS C g .never)) := PS.imp ps_never fun D σ H z => by
  obtain ⟨F, M, S, ρ, d, r, q, h, kk⟩ := z
  exact h
theorem ss_ret {m : ME} {e : PySem.Expr} {pos : Pos} (he : PE X e (LE X.K (wE C.c g m))) : PS X (.Return (some e) pos) (LS X.K W C.ex (wS C g (.ret m))) := PS.imp (ps_ret he) fun D σ H z => by
  obtain ⟨F, M, S, ρ, d, r, q, h, kk⟩ := z
  exact ⟨F, M, S, ρ, d.rt, r, q, h, kk.rt⟩
theorem ss_retN {pos : Pos} : PS X (.Return none pos) (LS X.K W C.ex (wS C g .retN)) := PS.imp ps_retN fun D σ H z => by
  obtain ⟨F, M, S, ρ, d, r, q, h, kk⟩ := z
  exact kk.rt.go q (show RepV X.K F .non .non from rfl) h
theorem ss_ex {m : ME} {e : PySem.Expr} {pos : Pos} (he : PE X e (LE X.K (wE C.c g m))) (hp : plE e = true) (hl : lcE e = false) : PS X (.Expr e pos) (LS X.K W C.ex (wS C g (.ex m))) := PS.imp (ps_expr he (pl_swap hp hl none pos.line X.env)) fun D σ H z => by
  obtain ⟨F, M, S, ρ, d, r, q, h, kk⟩ := z
  exact LE.bind r q h fun F1 S1 H1 x v e1 q1 rx r1 h1 => kk.nx F1 S1 H1 ρ σ e1 q1 r1 h1
theorem ss_if {c : ME} {a b : MB} {t : PySem.Expr} {x y : List PySem.Stmt} {pos : Pos} (hc : PT X t (LT X.K (wT C.c g c))) (ha : PSs X x (LS X.K W C.ex (wB C g a))) (hb : PSs X y (LS X.K W C.ex (wB C g b))) : PS X (.If t x y pos) (LS X.K W C.ex (wS C g (.ifs c a b))) := PS.imp (ps_if hc ha hb) fun D σ H z => by
  obtain ⟨F, M, S, ρ, d, r, q, h, kk⟩ := z
  refine LT.bind r q h fun F1 S1 H1 p e1 q1 r1 h1 => ?_
  cases p with
  | true => exact ⟨F1, M, S1, ρ, d, r1, q1, h1, kk.mono e1⟩
  | false => exact ⟨F1, M, S1, ρ, d, r1, q1, h1, kk.mono e1⟩
theorem asg_ok {m : ME} {t : MT} {D : Ends} {σ : L2.St} {H : Hp} (z : LS X.K W C.ex (wS C g (.asg t m)) D σ H) : LE X.K (wE C.c g m) σ H fun x H1 => gTg X.K t x σ H1 D.nx := by
  obtain ⟨F, M, S, ρ, d, r, q, h, kk⟩ := z
  exact LE.bind r q h fun F1 S1 H1 x v e1 q1 rx r1 h1 => tg_ok q1 rx r1 h1 fun ρ' σ' rr hk => kk.nx F1 S1 H1 ρ' σ' e1 q1 rr hk
theorem swapped_none {tg v : PySem.Expr} {env : Env} {N : List PySem.Str} {rs : Scope} {t : MT} (ht : tgE N rs t tg = true) (h : (tupE tg && tupE v) = false) : swappedStores [tg] v env = pure none := by
  cases t with
  | one i x =>
    cases tg <;> first | (cases ht; done) | rfl
  | many l =>
    cases tg <;> first | (cases ht; done) | skip
    cases v <;> first | rfl | (cases h; done)
theorem ass_each {tg : PySem.Expr} {env : Env} {N : List PySem.Str} {rs : Scope} {t : MT} (ht : tgE N rs t tg = true) : List.map (fun x => x.2) (assignEach [tg] env) = [assign tg env] := by
  cases t with
  | one i x => cases tg <;> first | (cases ht; done) | rfl
  | many l => cases tg <;> first | (cases ht; done) | rfl
theorem ss_asg (G : Good C.c g k N sc sc X) {m : ME} {t : MT} {tg v : PySem.Expr} {pos : Pos} (ht : tgE N.N sc t tg = true) (hm : cE N sc m v = true) (h2 : (tupE tg && tupE v) = false) : PS X (.Assign [tg] v pos) (LS X.K W C.ex (wS C g (.asg t m))) := by
  have hp := pl_of hm G.sup
  have plain : ∀ (hs : swapsWithSole [tg] v pos.line X.env = pure false), PS X (.Assign [tg] v pos) (LS X.K W C.ex (wS C g (.asg t m))) := fun hs =>
    PS.imp (ps_asg (sE m hm G) (sg G ht) hs (swapped_none ht h2) (ass_each ht)) fun D σ H z => asg_ok z
  by_cases hl : lcE v = true
  · cases m with
    | lc own ow elt tt ik ia c =>
      obtain ⟨x, tg2, iter, ifs, scope, p, rfl, h1, h2', h3, h4, h5, h6⟩ := i_lc hm
      cases t with
      | many l =>
        cases tg <;> first | (cases ht; done) | exact plain rfl
      | one i y =>
        cases tg <;> first | (cases ht; done) | skip
        rename_i y' py
        have ht' : (decide (y = y') && stE N.N sc i y) = true := ht
        simp only [Bool.and_eq_true, decide_eq_true_eq] at ht'
        obtain ⟨rfl, hst⟩ := ht'
        have es : swapsWith (.ListComp x [⟨tg2, iter, ifs, 0⟩] scope p) (some (.Name y py)) pos.line X.env = pure (X.env.blockKind == ScopeKind.function && X.env.kindOf y == some NameKind.local && py.line == p.line && !scope.names.any fun (n, k) => n == y && (k == NameKind.local || k == NameKind.cell)) := rfl
        cases hb : (X.env.blockKind == ScopeKind.function && X.env.kindOf y == some NameKind.local && py.line == p.line && !scope.names.any fun (n, k) => n == y && (k == NameKind.local || k == NameKind.cell)) with
        | false =>
          rw [hb] at es
          exact plain es
        | true =>
          rw [hb] at es
          have hb2 := blkOk_by h1
          obtain ⟨hi, hf⟩ := sI (C := C.c) (g := g) (tg := tg2) ia h4 G
          have Gb := fun s H Cc cl fp => G.blk scope s H Cc cl fp hb2.kind
          have hyl : X.env.scope.names.lookup y = some .local := by
            simp only [Bool.and_eq_true] at hb
            have q := hb.1.1.2
            exact beq_iff_eq.mp q
          have hi' : N.N[i]? = some y := by
            unfold stE at hst
            simp only [Bool.and_eq_true, decide_eq_true_eq] at hst
            exact hst.1
          have hg := fun s H Cc cl fp => sg (Gb s H Cc cl fp) h3
          have hc := fun s H Cc cl fp => sC (C := C.c) (g := g) c h5 (Gb s H Cc cl fp)
          have he := fun s H Cc cl fp => sE (C := C.c) (g := g) elt h6 (Gb s H Cc cl fp)
          exact PS.imp (ps_setLc G.calm (by rw [G.nN]; exact G.nd) (by rw [G.nN]; exact hi') hyl es hi (by rw [G.nN, G.sc]; exact hb2) hg hc he hf)
            fun D σ H z => se_lc G hb2 h2' hi hf hg hc he σ H _ (asg_ok z)
    | _ =>
      exfalso
      revert hm
      clear plain
      cases v <;> first | (cases hl; done) | skip
      intro hm
      unfold cE at hm
      simp at hm
  · have hl' : lcE v = false := by simpa using hl
    exact plain (pl_swap hp hl' (some tg) pos.line X.env)
theorem pl_put {l j : PySem.Expr} {p : Pos} (h : plE j = true) (env : Env) (v : Value) : assign (.Subscript l j p) env v = (do
    let ov ← holding [v] (eval l env)
    let iv ← holding [v, ov] (eval j env)
    standAt p
    holding [v, ov, iv] (setItem ov iv v)
    release [v, ov, iv] []) := by
  cases j <;> first | rfl | (cases h; done)
theorem set_LD (hu : X.A.units + 1 < cLine) : PSet X (fun o i v H Q => rSetL o i v H Q ∨ rSetD o i v H Q) := by
  intro pins s σ H o i v ov iv u Q I ro ri rv h
  rcases h with h | h
  · exact set_list pins s σ H o i v ov iv u Q I ro ri rv h
  · exact set_dict hu pins s σ H o i v ov iv u Q I ro ri rv h
theorem put_ok {K : PySem.W.Frag} {F M H : Hp} {S : Sto} (q : Sim K F M S H) {p : Addr} {d d' : SO} {y x : SV} {u v : V} (ry : RepV K F y u) (rx : RepV K F x v) (h : dicW S p = some d) (g : putD d y x = some d') (hz : lenD d < sizeLine) : ∃ H4, DPut H p u v H4 ∧ Sim K F M (supd S p d') H4 := by
  have hd : S p = some d ∧ ((∃ ks l, d = .dK ks l) ∨ ∃ ks l, d = .dT ks l) := by
    unfold dicW at h
    split at h
    · rename_i ks l e
      cases h
      exact ⟨e, .inl ⟨_, _, rfl⟩⟩
    · rename_i ks l e
      cases h
      exact ⟨e, .inr ⟨_, _, rfl⟩⟩
    · cases h
  obtain ⟨e, hd⟩ := hd
  obtain ⟨_, uo, hu, hr⟩ := q.s _ _ e
  rcases hd with ⟨ks, l, rfl⟩ | ⟨ks, l, rfl⟩
  · obtain ⟨vs, rfl, hl, r⟩ := hr
    obtain ⟨k, g1, g2⟩ := Option.map_eq_some_iff.mp g
    obtain ⟨ws, w1, w2, w3⟩ := putX_ok (k := k) r hl rx
    refine ⟨_, .inl ⟨_, k, hu, keyOf_ok ry g1, ?_, rfl⟩, ?_⟩
    · rw [List.length_zip, ← hl, Nat.min_self]
      exact hz
    · rw [← g2, w1]
      exact q.set e ⟨ws, rfl, w2, w3⟩
  · obtain ⟨vs, rfl, hl, r⟩ := hr
    obtain ⟨k, g1, g2⟩ := Option.map_eq_some_iff.mp g
    obtain ⟨b, b1, b2⟩ := tKey_ok q ry g1
    obtain ⟨ws, w1, w2, w3⟩ := putX_ok (k := k) r hl rx
    refine ⟨_, .inr ⟨_, k, b, hu, b1, b2, ?_, rfl⟩, ?_⟩
    · rw [List.length_zip, ← hl, Nat.min_self]
      exact hz
    · rw [← g2, w1]
      exact q.set e ⟨ws, rfl, w2, w3⟩
theorem ss_setIx (G : Good C.c g k N sc sc X) {a i m : ME} {l j v : PySem.Expr} {p pos : Pos} (ha : PE X l (LE X.K (wE C.c g a))) (hi : PE X j (LE X.K (wE C.c g i))) (hm : PE X v (LE X.K (wE C.c g m))) (hp : plE v = true) (hj : plE j = true) :
    PS X (.Assign [.Subscript l j p] v pos) (LS X.K W C.ex (wS C g (.setIx a i m))) := by
  have sw : swapsWithSole [.Subscript l j p] v pos.line X.env = pure false := by cases v <;> rfl
  refine PS.imp (ps_asg hm (pg_sub ha hi (set_LD (by have := G.room.units; omega)) (pl_put hj X.env)) sw) fun D σ H z => ?_
  obtain ⟨F, M, S, ρ, d, r, q, h, kk⟩ := z
  refine LE.bind r q h fun F1 S1 H1 x v e1 q1 rx r1 h1 => LE.bind r1 q1 h1 fun F2 S2 H2 y u e2 q2 ry r2 h2 => LE.bind r2 q2 h2 fun F3 S3 H3 z w e3 q3 rz r3 h3 => ?_
  unfold setS at h3
  split at h3
  · split at h3
    · rename_i p d hd
      obtain ⟨d', o1, o2, o3⟩ := h3
      have rx3 := RepV.mono (e2.trans e3) _ _ rx
      obtain ⟨H4, g, q4⟩ := put_ok q3 rz rx3 hd o1 o2
      exact .inr ⟨_, H4, ry, g, kk.nx F3 _ _ ρ σ ((e1.trans e2).trans e3) q4 r3 o3⟩
    · obtain ⟨i, l, j, rfl, o1, o2, o3⟩ := h3
      obtain ⟨_, uo, hu, vs, rfl, hl⟩ := q3.s _ _ o1
      have rx3 := RepV.mono (e2.trans e3) _ _ rx
      refine .inl ⟨_, vs, _, j, ry, rz, hu, by rw [← hl.length]; exact o2, ?_⟩
      exact kk.nx F3 _ _ ρ σ ((e1.trans e2).trans e3) (q3.set (o' := .lst (l.set j x)) (u := .lst (vs.set j v)) o1 ⟨_, rfl, RepL.set j hl rx3⟩) r3 o3
  · cases h3
/-- loops -/
theorem ss_for (G : Good C.c g k N sc sc X) (hpo : PassesOwn (model X.prog X.w) X.A X.env X.xe) {t : MT} {ik : ItK} {ia : MA} {body : MB} {tg iter : PySem.Expr} {st : List PySem.Stmt} {pos : Pos} (hi : PI X tg iter (LI X.K fun ρ S q => wA C.c g ia ρ S fun vs S1 => itS ik vs S1 fun l => q l S1))
    (hf : ∀ x, foldedSetIterable iter X.env x = pure x) (hg : PG X tg (gTg X.K t)) (hb : PSs X st (LS X.K W C.ex (wB C g body))) : PS X (.For tg iter st [] pos) (LS X.K W C.ex (wS C g (.for_ t ik ia body))) := PS.imp (ps_for hpo G.calm hi hg hb hf) fun D σ H z => by
  obtain ⟨F, M, S, ρ, d, r, q, h, kk⟩ := z
  refine ⟨F, M, S, ρ, _, r, q, h, fun F1 S1 H1 l J e1 q1 hJ h1 => ?_⟩
  refine ⟨fun i m σ' H' => i + m = l.length ∧ ∃ (F' : Hp) (S' : Sto) (ρ' : Ro), Same F1 F' ∧ Sim X.K F' M S' H' ∧ RepR X.K F' ρ' σ' ∧ forRun t (wB C g body) d (l.drop i) ρ' S', ⟨l.length, by omega, F1, S1, ρ, Same.rfl', q1, r.mono e1, h1⟩, fun i m σ' H' hW => ?_⟩
  obtain ⟨em, F', S', ρ', s1, q2, r2, h2⟩ := hW
  obtain ⟨j1, j2, j3⟩ := hJ F' M S' H' s1 q2
  by_cases hlt : i < l.length
  · rw [List.drop_eq_getElem_cons hlt] at h2
    refine .inr ⟨j1 i hlt, fun σ'' H'' => ∃ (F' : Hp) (S' : Sto) (ρ' : Ro), Same F1 F' ∧ Sim X.K F' M S' H'' ∧ RepR X.K F' ρ' σ'' ∧ forRun t (wB C g body) d (l.drop (i + 1)) ρ' S', fun σ'' H'' hN => ⟨m - 1, by omega, by omega, hN⟩, fun x H'' hy => ?_⟩
    obtain ⟨F2, s2, q3, rx⟩ := j3 i _ (List.getElem?_eq_getElem hlt) x H'' hy
    refine tg_ok q3 rx (r2.mono s2) h2 fun ρ3 σ3 r3 h3 => ?_
    have s12 := s1.trans s2
    exact ⟨F2, M, S', ρ3, _, r3, q3, h3, ⟨fun F4 S4 H4 ρ4 σ4 e4 q4 r4 z => ⟨F4, S4, ρ4, s12.trans e4, q4, r4, z⟩, (kk.mono (e1.trans s12)).rt, fun F4 S4 H4 ρ4 σ4 e4 q4 r4 z => (kk.mono (e1.trans s12)).nx F4 S4 H4 ρ4 σ4 e4 q4 r4 z, fun F4 S4 H4 ρ4 σ4 e4 q4 r4 z => ⟨F4, S4, ρ4, s12.trans e4, q4, r4, z⟩, (kk.mono (e1.trans s12)).x⟩⟩
  · have hi' : i = l.length := by omega
    subst hi'
    rw [List.drop_length] at h2
    exact .inl ⟨j2, kk.nx F' S' H' ρ' σ' (e1.trans s1) q2 r2 h2⟩
/-! exceptions -/
section
variable {f : PySem.Str} {as : MA} {es : List PySem.Expr} {p pos pos' : Pos}
theorem pe_cx {X : Cx} {W : WX} (G : Good C.c g k N sc sc X) (Fx : FnX C k N X) (tk : Takes X W) (hf : f ∈ N.T) (hg : glE sc f = true) (ha : PA X es (LA X.K (wA C.c g as))) (hc : cA N sc as es = true) (hn : es.isEmpty = false) :
    PE X (.Call (.Name f p) es [] pos) (tCallS (LSpX X.K (C.x f)) (WE W) (LA X.K (wA C.c g as))) := by
  obtain ⟨h1, h2, h3⟩ := G.gl_ hg
  obtain ⟨a, fd, ps, hm, hF, hk, hb⟩ := Fx.2.2.1 f hf
  cases es with
  | nil => cases hn
  | cons e es =>
    cases as with
    | nil => cases hc
    | cons m as =>
      have hc' : (cE N sc m e && cA N sc as es) = true := hc
      rw [Bool.and_eq_true] at hc'
      exact pe_callS hF G.room h1 hm hk hb (fun σ => passAt tk σ) ha h2 (pl_star (pl_of hc'.1 G.sup) es X.env) (star_none G.sup hc'.2)
theorem cx_swap (G : Good C.c g k N sc sc X) (hf : f ∈ N.T) (t : Option PySem.Expr) (l : Nat) (env : Env) : swapsWith (.Call (.Name f p) es [] pos) t l env = pure false :=
  pl_swap (e := .Call (.Name f p) es [] pos) (by show (f != "super") = true; exact bne_iff_ne.mpr fun z => G.sup (z ▸ hf)) rfl t l env
theorem cx_call {K : PySem.W.Frag} {F M H : Hp} {S : Sto} {ρ : Ro} {σ : L2.St} {Qs : SK} {Q : VK} {Es : XS} {E : XK} (r : RepR K F ρ σ) (q : Sim K F M S H) (h : wA C.c g as ρ S fun vs S1 => C.x f vs S1 Qs Es) (kq : Kk K F M Qs Q) (ke : Kx K F M Es E) :
    LA K (wA C.c g as) σ H fun vs H1 => LSpX K (C.x f) vs H1 Q E :=
  ⟨F, M, S, ρ, _, r, q, h, fun F' S' H' xs vs e q' rl z => ⟨F', M, S', xs, _, _, rl, q', z, kq.mono e, ke.mono e⟩⟩
theorem ss_asgL (G : Good C.c g k N sc sc X) (Fx : FnX C k N X) {i : Nat} {y : PySem.Str} {py : Pos} {a b c body : ME} {M ps : List PySem.Str} {js : List Nat} {e1 e2 e3 e : PySem.Expr} {params : Arguments} {scope : Scope} {lpos : Pos} (hL : N.L = true) (hs : stE N.N sc i y = true)
    (hf : f ∈ N.T) (hg : glE sc f = true) (h1 : PE X e1 (LE X.K (wE C.c g a))) (p1 : plE e1 = true) (h2 : PE X e2 (LE X.K (wE C.c g b))) (p2 : plE e2 = true) (h3 : PE X e3 (LE X.K (wE C.c g c))) (p3 : plE e3 = true)
    (hp : lamP params ps = true) (hps : ps = (["one", "row"] : List PySem.Str)) (hS : NdefX.nscB M ps (M.drop ps.length) scope = true) (hn : NdefX.ndefB sc scope (M.drop ps.length) = true) (hj : js.map (fun j => N.N[j]?) = (M.drop ps.length).map some) (hc : cE ⟨M, N.T, [], false, []⟩ scope body e = true) :
    PS X (.Assign [.Name y py] (.Call (.Name f p) [e1, e2, e3, .Lambda params e scope lpos] [] pos) pos') (LS X.K W C.ex (wS C g (.asgL i y f a b c M ps js body))) :=
  PS.imp (ps_asg (pe_clam G Fx.1 (Fx.2.2.2.1 hL) (body := body) hf hg h1 p1 h2 p2 h3 p3 hp hps hS hn hj hc) (G.name hs) (cx_swap (p := p) (es := [e1, e2, e3, .Lambda params e scope lpos]) (pos := pos) G hf (some (.Name y py)) pos'.line X.env)) fun D σ H z => by
    obtain ⟨F, M, S, ρ, d, r, q, ⟨h0, h⟩, kk⟩ := z
    exact ⟨F, M, S, ρ, _, r, q, ⟨h0, h⟩, fun F' S' H' x v e q' rx z => kk.nx F' S' H' _ _ e q' ((r.mono e).set i rx) z⟩
end
section
variable {X : Cx}
end
/-- what a raising expression asks -/
def LEx (K : PySem.W.Frag) (W : WX) (ex : XS) (t : SE) : TE := fun σ H Q => ∃ F M S ρ kq, RepR K F ρ σ ∧ Sim K F M S H ∧ t ρ S kq ∧ Kk K F M kq Q ∧ Kx K F M ex (WE W σ)
section
variable {ex : XS}
theorem cX_pl (hT : ("super" : PySem.Str) ∉ N.T) : ∀ {x : MX} {e : PySem.Expr}, cX N sc x e = true → plE e = true ∧ lcE e = false ∧ (tupX x = false → tupE e = false)
  | .call f as, e, h => by
    unfold cX at h
    split at h <;> first | (rename_i q; cases q; done) | skip
    · rename_i q
      cases q
      simp only [Bool.and_eq_true, decide_eq_true_eq] at h
      obtain ⟨⟨⟨⟨rfl, h1⟩, _⟩, _⟩, _⟩ := h
      exact ⟨by show (_ != _) = true; exact bne_iff_ne.mpr fun z => hT (z ▸ h1), rfl, fun _ => rfl⟩
    · cases h
  | .tup2 x b, e, h => by
    unfold cX at h
    split at h <;> first | (rename_i q; cases q; done) | skip
    · rename_i q
      cases q
      exact ⟨rfl, rfl, fun z => by cases z⟩
    · cases h
  | .callL f a b x, e, h => by
    unfold cX at h
    split at h <;> first | (rename_i q; cases q; done) | skip
    · rename_i q
      cases q
      simp only [Bool.and_eq_true, decide_eq_true_eq] at h
      obtain ⟨⟨⟨⟨⟨rfl, h1⟩, _⟩, _⟩, _⟩, _⟩ := h
      exact ⟨by show (_ != _) = true; exact bne_iff_ne.mpr fun z => hT (z ▸ h1), rfl, fun _ => rfl⟩
    · cases h
  | .pcall f x, e, h => by
    unfold cX at h
    split at h <;> first | (rename_i q; cases q; done) | skip
    · rename_i q
      cases q
      simp only [Bool.and_eq_true, decide_eq_true_eq] at h
      obtain ⟨⟨⟨rfl, h1⟩, _⟩, _⟩ := h
      exact ⟨by show (_ != _) = true; exact bne_iff_ne.mpr fun z => hT (z ▸ h1), rfl, fun _ => rfl⟩
    · cases h
  | .spl own x w, e, h => by
    unfold cX at h
    split at h <;> first | (rename_i q; cases q; done) | skip
    · rename_i q
      cases q
      exact ⟨rfl, rfl, fun _ => rfl⟩
    · cases h
  | .one own x, e, h => by
    unfold cX at h
    split at h <;> first | (rename_i q; cases q; done) | skip
    · rename_i q
      cases q
      exact ⟨rfl, rfl, fun _ => rfl⟩
    · cases h
theorem px {X : Cx} {W : WX} (G : Good C.c g k N sc sc X) (Fx : FnX C k N X) (tk : Takes X W) : ∀ {x : MX} {e : PySem.Expr}, cX N sc x e = true → PE X e (LEx X.K W ex (wX C g ex x))
  | .call f as, e, h => by
    unfold cX at h
    split at h <;> first | (rename_i q; cases q; done) | skip
    · rename_i q
      cases q
      simp only [Bool.and_eq_true, decide_eq_true_eq, Bool.not_eq_true'] at h
      obtain ⟨⟨⟨⟨rfl, h1⟩, h2⟩, h3⟩, h4⟩ := h
      refine PE.imp (pe_cx G Fx tk h1 h2 (sA as h4 G) h4 h3) fun σ H Q z => ?_
      obtain ⟨F, M, S, ρ, kq, r, q, h, kk, kx⟩ := z
      exact cx_call r q h kk kx
    · cases h
  | .tup2 x b, e, h => by
    unfold cX at h
    split at h <;> first | (rename_i q; cases q; done) | skip
    · rename_i q
      cases q
      simp only [Bool.and_eq_true] at h
      obtain ⟨h1, h2⟩ := h
      refine PE.imp (pe_tup (pa_cons (px G Fx tk h1) (pa_cons (sE b h2 G) pa_nil (pl_star (pl_of h2 G.sup) [] X.env)) (pl_star (cX_pl G.sup h1).1 _ X.env))) fun σ H Q z => ?_
      obtain ⟨F, M, S, ρ, kq, r, q, h, kk, kx⟩ := z
      refine ⟨F, M, S, ρ, _, r, q, h, fun F1 S1 H1 v u e1 q1 rv h1 => ?_, kx⟩
      refine LE.bind (r.mono e1) q1 h1 fun F2 S2 H2 y w e2 q2 ry r2 h2 => ?_
      refine ⟨by show 2 ≤ sizeLine; decide, fun p hp => newT_ok q2 (xs := [v, y]) ?_ h2 (kk.mono (e1.trans e2)) hp⟩
      exact ⟨u, _, rfl, RepV.mono e2 _ _ rv, w, _, rfl, ry, rfl⟩
    · cases h
  | .callL f a b x, e, h => by
    unfold cX at h
    split at h <;> first | (rename_i q; cases q; done) | skip
    · rename_i q
      cases q
      simp only [Bool.and_eq_true, decide_eq_true_eq] at h
      obtain ⟨⟨⟨⟨⟨rfl, hf⟩, hg⟩, ha⟩, hb⟩, hx⟩ := h
      obtain ⟨g1, g2, g3⟩ := G.gl_ hg
      obtain ⟨fa, fd, ps, hm, hF, hk, hbd⟩ := Fx.2.2.1 f hf
      have p1 := pl_of ha G.sup
      have p2 := pl_of hb G.sup
      have p3 := (cX_pl G.sup hx).1
      rename_i e1 e2 e3 pos
      refine PE.imp (pe_callS hF G.room g1 hm hk hbd (fun σ => passAt tk σ) (pa_cons (sE a ha G) (pa_cons (sE b hb G) (pa_cons (px G Fx tk hx) pa_nil (pl_star p3 [] X.env)) (pl_star p2 _ X.env)) (pl_star p1 _ X.env)) g2 (pl_star p1 _ X.env) (by rw [pl_star p2 _ X.env, pl_star p3 [] X.env]; rfl)) fun σ H Q z => ?_
      obtain ⟨F, M, S, ρ, kq, r, q, h, kk, kx⟩ := z
      refine LE.bind r q h fun F1 S1 H1 v1 u1 e1 q1 rv1 r1 h1 => ?_
      refine LE.bind r1 q1 h1 fun F2 S2 H2 v2 u2 e2 q2 rv2 r2 h2 => ?_
      refine ⟨F2, M, S2, ρ, _, r2, q2, h2, fun F3 S3 H3 v3 u3 e3 q3 rv3 h3 => ?_, kx.mono (e1.trans e2)⟩
      exact ⟨F3, M, S3, [v1, v2, v3], kq, ex, ⟨u1, _, rfl, RepV.mono (e2.trans e3) _ _ rv1, u2, _, rfl, RepV.mono e3 _ _ rv2, u3, _, rfl, rv3, rfl⟩, q3, h3, kk.mono ((e1.trans e2).trans e3), kx.mono ((e1.trans e2).trans e3)⟩
    · cases h
  | .pcall f x, e, h => by
    unfold cX at h
    split at h <;> first | (rename_i q; cases q; done) | skip
    · rename_i q
      cases q
      simp only [Bool.and_eq_true, decide_eq_true_eq] at h
      obtain ⟨⟨⟨rfl, hf⟩, hg⟩, hx⟩ := h
      obtain ⟨g1, g2, g3⟩ := G.gl_ hg
      obtain ⟨fa, fd, ps, hm, hF, hk, hbd⟩ := G.fn f hf
      have p3 := (cX_pl G.sup hx).1
      refine PE.imp (pe_call hF G.room g1 hm hk hbd .nil pass0 (pa_cons (px G Fx tk hx) pa_nil (pl_star p3 [] X.env)) g2 (pl_star p3 [] X.env) rfl) fun σ H Q z => ?_
      obtain ⟨F, M, S, ρ, kq, r, q, h, kk, kx⟩ := z
      refine ⟨F, M, S, ρ, _, r, q, h, fun F1 S1 H1 v1 u1 e1 q1 rv1 h1 => ?_, kx⟩
      show LSp X.K (C.c f) ([u1] ++ []) H1 Q E0
      exact ⟨F1, M, S1, [v1], kq, ⟨u1, _, rfl, rv1, rfl⟩, q1, h1, kk.mono e1⟩
    · cases h
  | .spl own x w, e, h => by
    unfold cX at h
    split at h <;> first | (rename_i q; cases q; done) | skip
    · rename_i q
      cases q
      simp only [Bool.and_eq_true, decide_eq_true_eq] at h
      obtain ⟨⟨⟨hl, rfl⟩, rfl⟩, hx⟩ := h
      have p3 := (cX_pl G.sup hx).1
      refine PE.imp (pe_bm PySem.F.plainAttrs_str PySem.F.slot_str_split PySem.F.type_str_split (mt_splitS (own := own)) (px G Fx tk hx) (pa_cons pe_str pa_nil) (pl_attr p3 _ X.env _) (by rfl) hl) fun σ H Q z => ?_
      obtain ⟨F, M, S, ρ, kq, r, q, h, kk, kx⟩ := z
      refine ⟨F, M, S, ρ, _, r, q, h, fun F1 S1 H1 v1 u1 e1 q1 rv1 h1 => ?_, kx⟩
      have hv : ∃ s, v1 = .str s := by
        have h1' : splitS own v1 (.str w) S1 kq := h1
        unfold splitS at h1'
        split at h1'
        · rename_i a _ _ _
          exact ⟨_, rfl⟩
        · cases h1'
      obtain ⟨s, rfl⟩ := hv
      have e3 : u1 = .str s := rv1
      subst e3
      exact ⟨rfl, F1, M, S1, .str s, [.str w], kq, rfl, ⟨.str w, _, rfl, rfl, rfl⟩, q1, h1, kk.mono e1⟩
    · cases h
  | .one own x, e, h => by
    unfold cX at h
    split at h <;> first | (rename_i q; cases q; done) | skip
    · rename_i q
      cases q
      have p3 := (cX_pl G.sup h).1
      refine PE.imp (pe_lst (pa_cons (px G Fx tk h) pa_nil (pl_star p3 [] X.env))) fun σ H Q z => ?_
      obtain ⟨F, M, S, ρ, kq, r, q, h, kk, kx⟩ := z
      refine ⟨F, M, S, ρ, _, r, q, h, fun F1 S1 H1 v1 u1 e1 q1 rv1 h1 => ?_, kx⟩
      exact ⟨by show 1 ≤ sizeLine; decide, fun p hp => newL_ok q1 (xs := [v1]) ⟨u1, _, rfl, rv1, rfl⟩ h1 (kk.mono e1) hp⟩
    · cases h
/-- the body of a try -/
def LY (K : PySem.W.Frag) (W : WX) (ex : XS) (t : (Ro → Sto → Prop) → Ro → Sto → Prop) : TS := fun D σ H => ∃ F M S ρ nx, RepR K F ρ σ ∧ Sim K F M S H ∧ t nx ρ S ∧ (∀ F' S' H' ρ' σ', Same F F' → Sim K F' M S' H' → RepR K F' ρ' σ' → nx ρ' S' → D.nx σ' H') ∧ Kx K F M ex (WE W σ)
theorem py {X : Cx} {W : WX} (G : Good C.c g k N sc sc X) (Fx : FnX C k N X) (tk : Takes X W) : ∀ {y : MY} {st : PySem.Stmt}, cY N sc y st = true → PS X st (LY X.K W ex (wY C g ex y))
  | .ex x, st, h => by
    unfold cY at h
    split at h <;> first | (rename_i q; cases q; done) | skip
    · rename_i q
      cases q
      obtain ⟨h1, h2, _⟩ := cX_pl G.sup h
      refine PS.imp (ps_expr (px (ex := ex) G Fx tk h) (pl_swap h1 h2 none _ X.env)) fun D σ H z => ?_
      obtain ⟨F, M, S, ρ, nx, r, q, h, kk, kx⟩ := z
      exact ⟨F, M, S, ρ, _, r, q, h, fun F' S' H' x v e q' _ z => kk F' S' H' ρ σ e q' (r.mono e) z, kx⟩
    · cases h
  | .asg t x, st, h => by
    unfold cY at h
    split at h <;> first | (rename_i q; cases q; done) | skip
    · rename_i q
      cases q
      simp only [Bool.and_eq_true, Bool.not_eq_true'] at h
      obtain ⟨⟨ht, hx⟩, h⟩ := h
      obtain ⟨h1, h2, h3⟩ := cX_pl G.sup h
      refine PS.imp (ps_asg (px (ex := ex) G Fx tk h) (sg G ht) (pl_swap h1 h2 _ _ X.env) (swapped_none ht (by rw [h3 hx, Bool.and_false])) (ass_each ht)) fun D σ H z => ?_
      obtain ⟨F, M, S, ρ, nx, r, q, h, kk, kx⟩ := z
      exact ⟨F, M, S, ρ, _, r, q, h, fun F' S' H' x v e q' rx z => tg_ok q' rx (r.mono e) z fun ρ3 σ3 r3 h3 => kk F' S' H' ρ3 σ3 e q' r3 h3, kx⟩
    · cases h
  | .ifs c a b, st, h => by
    unfold cY at h
    split at h <;> first | (rename_i q; cases q; done) | skip
    · rename_i q
      cases q
      simp only [Bool.and_eq_true] at h
      obtain ⟨⟨⟨h1, h2⟩, h3⟩, h4⟩ := h
      refine PS.imp (ps_if (sT c h2 h1 G) (pss_one (py G Fx tk h3)) (pss_one (py G Fx tk h4))) fun D σ H z => ?_
      obtain ⟨F, M, S, ρ, nx, r, q, h, kk, kx⟩ := z
      refine LT.bind r q h fun F1 S1 H1 p e1 q1 r1 h1 => ?_
      cases p with
      | true => exact ⟨F1, M, S1, ρ, nx, r1, q1, h1, fun F' S' H' ρ' σ' e => kk F' S' H' ρ' σ' (e1.trans e), kx.mono e1⟩
      | false => exact ⟨F1, M, S1, ρ, nx, r1, q1, h1, fun F' S' H' ρ' σ' e => kk F' S' H' ρ' σ' (e1.trans e), kx.mono e1⟩
    · cases h
end
section
variable {X : Cx} {E : List PySem.Str} {j : Nat} {n : PySem.Str} {a : Addr}
end
theorem sb_nil : PSs X [] (LS X.K W C.ex (wB C g .nil)) := PSs.imp pss_nil fun D σ H z => by
  obtain ⟨F, M, S, ρ, d, r, q, h, kk⟩ := z
  exact kk.nx F S H ρ σ Same.rfl' q r h
theorem sb_cons {s : MS} {b : MB} {st : PySem.Stmt} {sts : List PySem.Stmt} (hs : PS X st (LS X.K W C.ex (wS C g s))) (hb : PSs X sts (LS X.K W C.ex (wB C g b))) : PSs X (st :: sts) (LS X.K W C.ex (wB C g (.cons s b))) := PSs.imp (pss_cons hs hb) fun D σ H z => by
  obtain ⟨F, M, S, ρ, d, r, q, h, kk⟩ := z
  exact ⟨F, M, S, ρ, _, r, q, h, ⟨fun F1 S1 H1 ρ1 σ1 e1 q1 r1 z => ⟨F1, M, S1, ρ1, d, r1, q1, z, kk.mono e1⟩, kk.rt, kk.bk, kk.ct, kk.x⟩⟩
theorem sb_frz {i : Nat} {b : MB} {sts : List PySem.Stmt} (hb : PSs X sts (LS X.K W C.ex (wB C g b))) : PSs X sts (LS X.K W C.ex (wB C g (.cons (.frz i) b))) := PSs.imp hb fun D σ H z => by
  obtain ⟨F, M, S, ρ, d, r, q, ⟨p, S2, v, e0, hs, hf, h⟩, kk⟩ := z
  have s1 : Same F (frzF F H S S2) := frzF_same
  obtain ⟨w, w1, w2⟩ := r.2 i _ e0
  have rv : RepV X.K (frzF F H S S2) v w := hf.rep q w2
  refine ⟨_, M, S2, _, d, ?_, q.freeze hs, h, kk.mono s1⟩
  have r2 := (r.mono s1).set i rv
  have e : σ.set i (some w) = σ := by
    refine List.ext_getElem? fun j => ?_
    by_cases hj : i = j
    · subst hj
      rw [w1]
      exact List.getElem?_set_self (List.getElem?_eq_some_iff.mp w1).1
    · exact List.getElem?_set_ne hj
  rw [e] at r2
  exact r2
end
section
variable {C : Cls} {W : WX} {g : PySem.Str → Option SV} {k : Nat} {N : Ck} {sc : Scope} {X : Cx}
mutual
theorem sS (hst : X.stack = X.env :: X.outer) (hfr : X.env.frame = some X.env.locals) (hkind : ∀ x, X.env.kindOf x = X.env.scope.names.lookup x) (G : Good C.c g k N sc sc X) (Fx : FnX C k N X) (tk : Takes X W) (hpo : PassesOwn (model X.prog X.w) X.A X.env X.xe) : ∀ (m : MS) {st : PySem.Stmt}, cS N sc m st = true → PS X st (LS X.K W C.ex (wS C g m))
  | .asg t e, st, h => by
    cases st <;> first | (cases h; done) | skip
    rename_i ts v pos
    match ts, h with
    | [], h => cases h
    | [tg], h =>
      have h' : (tgE N.N sc t tg && cE N sc e v && !(tupE tg && tupE v)) = true := h
      simp only [Bool.and_eq_true, Bool.not_eq_true'] at h'
      exact ss_asg G h'.1.1 h'.1.2 h'.2
    | _ :: _ :: _, h => cases h
  | .setIx a i e, st, h => by
    cases st <;> first | (cases h; done) | skip
    rename_i ts v pos
    match ts, h with
    | [], h => cases h
    | _ :: _ :: _, h => exact absurd h (by unfold cS; simp)
    | [tg], h =>
      cases tg <;> first | (cases h; done) | skip
      rename_i l j p
      have h' : (cE N sc a l && cE N sc i j && cE N sc e v) = true := h
      simp only [Bool.and_eq_true] at h'
      exact ss_setIx G (sE a h'.1.1 G) (sE i h'.1.2 G) (sE e h'.2 G) (pl_of h'.2 G.sup) (pl_of h'.1.2 G.sup)
  | .ex e, st, h => by
    cases st <;> first | (cases h; done) | skip
    rename_i v pos
    have h' : (cE N sc e v && !lcE v) = true := h
    simp only [Bool.and_eq_true, Bool.not_eq_true'] at h'
    exact ss_ex (sE e h'.1 G) (pl_of h'.1 G.sup) h'.2
  | .ret e, st, h => by
    cases st <;> first | (cases h; done) | skip
    rename_i v pos
    cases v with
    | none => cases h
    | some v => exact ss_ret (sE e h G)
  | .retN, st, h => by
    cases st <;> first | (cases h; done) | skip
    rename_i v pos
    cases v with
    | none => exact ss_retN
    | some v => cases h
  | .ifs c a b, st, h => by
    cases st <;> first | (cases h; done) | skip
    rename_i t x y pos
    have h' : (tM c && cE N sc c t && cB N sc a x && cB N sc b y) = true := h
    simp only [Bool.and_eq_true] at h'
    exact ss_if (sT c h'.1.1.2 h'.1.1.1 G) (sB hst hfr hkind G Fx tk hpo a h'.1.2) (sB hst hfr hkind G Fx tk hpo b h'.2)
  | .for_ t ik ia body, st, h => by
    cases st <;> first | (cases h; done) | skip
    rename_i tg iter bd els pos
    cases els with
    | cons _ _ => cases h
    | nil =>
      have h' : (tgE N.N sc t tg && cI N sc ik ia iter (tupE tg) && cB N sc body bd) = true := h
      simp only [Bool.and_eq_true] at h'
      obtain ⟨hi, hf⟩ := sI (C := C.c) (g := g) ia h'.1.2 G
      exact ss_for G hpo hi hf (sg G h'.1.1) (sB hst hfr hkind G Fx tk hpo body h'.2)
  | .pass, st, h => by
    cases st <;> first | (cases h; done) | exact ss_pass
  | .brk, st, h => by
    cases st <;> first | (cases h; done) | exact ss_brk
  | .cont, st, h => by
    cases st <;> first | (cases h; done) | exact ss_cont
  | .frz i, st, h => by
    cases st <;> cases h
  | .never, st, h => ss_never
  | .asgL i x f a b c M ps js body, st, h => by
    unfold cS at h
    split at h <;> first | (cases h; done) | skip
    all_goals (rename_i q; first | (cases q; done) | skip)
    cases q
    simp only [Bool.and_eq_true, decide_eq_true_eq] at h
    obtain ⟨⟨⟨⟨⟨⟨⟨⟨⟨⟨⟨⟨⟨⟨hL, rfl⟩, hs⟩, rfl⟩, hf⟩, hg⟩, ha⟩, hb⟩, hc⟩, hp⟩, hps⟩, hS⟩, hn⟩, hj⟩, hbody⟩ := h
    exact ss_asgL G Fx hL hs hf hg (sE a ha G) (pl_of ha G.sup) (sE b hb G) (pl_of hb G.sup) (sE c hc G) (pl_of hc G.sup) hp hps hS hn hj hbody
theorem sB (hst : X.stack = X.env :: X.outer) (hfr : X.env.frame = some X.env.locals) (hkind : ∀ x, X.env.kindOf x = X.env.scope.names.lookup x) (G : Good C.c g k N sc sc X) (Fx : FnX C k N X) (tk : Takes X W) (hpo : PassesOwn (model X.prog X.w) X.A X.env X.xe) : ∀ (b : MB) {sts : List PySem.Stmt}, cB N sc b sts = true → PSs X sts (LS X.K W C.ex (wB C g b))
  | .nil, sts, h => by
    cases sts with
    | nil => exact sb_nil
    | cons _ _ => cases h
  | .cons s b, sts, h => by
    by_cases hs : ∃ i, s = .frz i
    · obtain ⟨i, rfl⟩ := hs
      have h' : cB N sc b sts = true := by
        cases sts <;> exact h
      exact sb_frz (sB hst hfr hkind G Fx tk hpo b h')
    · cases sts with
      | nil => exact absurd h (by cases s <;> first | exact absurd ⟨_, rfl⟩ hs | (intro z; cases z))
      | cons st sts =>
        have h' : (cS N sc s st && cB N sc b sts) = true := by
          cases s <;> first | exact absurd ⟨_, rfl⟩ hs | exact h
        rw [Bool.and_eq_true] at h'
        exact sb_cons (sS hst hfr hkind G Fx tk hpo s h'.1) (sB hst hfr hkind G Fx tk hpo b h'.2)
end
end
end Sy

namespace Sy
open PySem PySem.Spec PyProof.Rows L2
/-! ### defs -/
theorem fin_ok {K : PySem.W.Frag} {F M H : Hp} {S : Sto} {kq : SK} {Q : VK} (kk : Kk K F M kq Q) {F' : Hp} (e : Same F F') (q : Sim K F' M S H) {x : SV} {v : V} (r : RepV K F' x v) (h : fin kq x S) : Q v H := by
  obtain ⟨S2, y, hs, hf, h2⟩ := h
  exact kk _ S2 H y v (e.trans frzF_same) (q.freeze hs) (hf.rep q r) h2
theorem start_ok {K : PySem.W.Frag} {F : Hp} {N : List PySem.Str} {xs : List SV} {vs : List V} (r : RepL K F xs vs) : RepR K F (xs.map some ++ List.replicate (N.length - xs.length) none) (L2.start N vs) := by
  have hl := r.length
  unfold L2.start
  refine ⟨by simp [hl], fun i x e => ?_⟩
  by_cases hi : i < xs.length
  · rw [List.getElem?_append_left (by simpa using hi), List.getElem?_map] at e
    obtain ⟨y, e1, e2⟩ := Option.map_eq_some_iff.mp e
    cases e2
    obtain ⟨v, h1, h2⟩ := RepL.get r e1
    exact ⟨v, by rw [List.getElem?_append_left (by simp; omega), List.getElem?_map, h1]; rfl, h2⟩
  · rw [List.getElem?_append_right (by simp; omega), List.getElem?_replicate] at e
    split at e <;> cases e
section
variable {P : Program} {w : World} {K : PySem.W.Frag} {mg : PySem.Str → Option Value} {base : Heap}
/-- a def of the row stands at its name, and its small tree is looked at -/
structure DefAt (K : PySem.W.Frag) (mg : PySem.Str → Option Value) (T E : List PySem.Str) (Mt : List (PySem.Str × PySem.Str × PySem.Str)) (f : PySem.Str) (d : Def) : Prop where
  ex : ∃ st a fd, mg f = some (.ref a) ∧ Fun K f f st a fd ∧ FnScope d.N d.ps (defScope st) ∧ cB ⟨d.N, T, E, decide (f = "all_rows"), Mt⟩ (defScope st) d.body (defBody st) = true ∧ Binds K fd d.ps []
/-- a method of a class stands there, and its small tree is looked at -/
structure MthAt (K : PySem.W.Frag) (mg : PySem.Str → Option Value) (T E : List PySem.Str) (Mt : List (PySem.Str × PySem.Str × PySem.Str)) (f c m : PySem.Str) (d : Def) : Prop where
  ex : ∃ Ca st a fd, InsK K c Ca ∧ Meth K Ca m a ∧ Fun K m f st a fd ∧ FnScope d.N d.ps (defScope st) ∧ cB ⟨d.N, T, E, false, Mt⟩ (defScope st) d.body (defBody st) = true ∧ Binds K fd d.ps [] ∧ (m = "__init__" → mg c = some (.ref Ca) ∧ Mk K Ca a)
/-- what the module has -/
structure ModOk (K : PySem.W.Frag) (mg : PySem.Str → Option Value) (T E : List PySem.Str) (Mt : List (PySem.Str × PySem.Str × PySem.Str)) (Pr : PySem.Str → Option Def) (g : PySem.Str → Option SV) : Prop where
  sup : ("super" : PySem.Str) ∉ T ∧ ("<is lambda>" : PySem.Str) ∉ T ∧ ("<lambda>" : PySem.Str) ∉ T
  bi : ∀ f : Bi, mg (biN f) = none
  ty : ∀ t : Ty, mg (tyN t) = none
  rng : mg "range" = none
  enu : mg "enumerate" = none
  zip : mg "zip" = none
  set : mg "set" = none
  fv : ∀ f ∈ T, ∃ a, mg f = some (.ref a) ∧ PySem.W.nsIn K mainGlobals f = some (some (.ref a))
  cl : ∀ f, (Pr f).isSome = true → noDot f = true → f ∈ T
  mth : ∀ f c m, (f, c, m) ∈ Mt → noDot f = false ∧ ∃ d, Pr f = some d ∧ MthAt K mg T E Mt f c m d
  ex1 : ∀ c fld, c ∈ E → (c, fld) ∈ ex1 → ∀ B, mg c = some (.ref B) → OexC K B ∧ PySem.W.findIn K (.ref B) fld = some none ∧ ∃ fI fd, PySem.W.findIn K (.ref B) "__init__" = some (some (.ref fI)) ∧ PySem.W.typeIn K (.ref fI) = some (.type "function") ∧
    (∀ (P : Program) (w : World) (base : Heap), FnOk P w K mg base CX0 1 fI fd ["self", fld] (spInit K B fld (okV c))) ∧ Binds K fd ["self", fld] []
  gl : ∀ x v, g x = some v → ∃ w u, mg x = some u ∧ RelV w u ∧ RepV K (fun _ => none) v w
  fn : ∀ f ∈ T, ∃ d, Pr f = some d ∧ DefAt K mg T E Mt f d
  ve : mg "ValueError" = none
  exc : ∀ c ∈ E, c ∈ exB ∧ ∃ B, mg c = some (.ref B) ∧ PySem.W.nsIn K mainGlobals c = some (some (.ref B)) ∧ ClsK K c B
  ex0 : ∀ c ∈ E, c ∈ ex0 → ∀ B, mg c = some (.ref B) → PySem.W.excIn K B [.type "ValueError", .type "Exception", .type "BaseException", .type "object"] "ValueError.__new__" = true ∧ PySem.W.keepIn K (.ref B) = true
/-- the table of the def that makes lambdas -/
def TabH (K : PySem.W.Frag) (mg : PySem.Str → Option Value) (base : Heap) : Prop := ∀ fa oc od fd sl c, PySem.W.nsIn K mainGlobals "all_rows" = some (some (.ref fa)) → K.lookup fa = some ⟨oc, od, .func fd, sl⟩ → fd.code = .ref c → ∃ P, LamAt K c P ∧ LamX.TabB base mg c P
theorem TabH.keep {base' : Heap} (h : TabH K mg base) (e : ∀ b o, base.get? b = some o → base'.get? b = some o) : TabH K mg base' := fun fa oc od fd sl c h1 h2 h3 => by
  obtain ⟨P, l, t⟩ := h fa oc od fd sl c h1 h2 h3
  exact ⟨P, l, t.code.keeps e, t.bm.keeps e, t.gP⟩
theorem fn_no {f : Addr} {fd : FuncData} {ps : List PySem.Str} {k : Nat} : FnOk P w K mg base CX0 k f fd ps (LSp K fun _ _ _ => False) := by
  refine ⟨fun vs H Q E h => ?_, fun A outer s H args us vs Q E hr e0 hb r h => ?_⟩
  · obtain ⟨_, _, _, _, _, _, _, z, _⟩ := h
    exact z.elim
  · obtain ⟨_, _, _, _, _, _, _, z, _⟩ := h
    exact z.elim
theorem fn_noX {f : Addr} {fd : FuncData} {ps : List PySem.Str} {k : Nat} : FnOk P w K mg base (L2.CX P w) k f fd ps (LSpX K fun _ _ _ _ => False) := by
  refine ⟨fun vs H Q E h => ?_, fun A outer s H args us vs Q E hr e0 hb r h => ?_⟩
  · obtain ⟨_, _, _, _, _, _, _, _, z, _⟩ := h
    exact z.elim
  · obtain ⟨_, _, _, _, _, _, _, _, z, _⟩ := h
    exact z.elim
abbrev Xal := PySem.Str → List SV → Sto → SK → XS → Prop
abbrev Lal := PySem.Str → SV → (Cal → List SV → Sto → SK → Prop) → List SV → Sto → SK → Prop
/-- what is known of the defs a level below -/
structure Both (P : Program) (w : World) (K : PySem.W.Frag) (mg : PySem.Str → Option Value) (base : Heap) (T : List PySem.Str) (Mt : List (PySem.Str × PySem.Str × PySem.Str)) (k : Nat) (c : Cal) (x : Xal) : Prop where
  t : ∀ f ∈ T, ∃ a fd ps, mg f = some (.ref a) ∧ FnOk P w K mg base CX0 (2 * k) a fd ps (LSp K (c f)) ∧ FnOk P w K mg base (L2.CX P w) (2 * k) a fd ps (LSpX K (x f)) ∧ PySem.W.keepIn K (.ref a) = true ∧ Binds K fd ps []
  l : (∃ f vs S Q, c f vs S Q) → 1 ≤ k
  m : ∀ f c' m', (f, c', m') ∈ Mt → ∃ Ca a fd ps, InsK K c' Ca ∧ Meth K Ca m' a ∧ FnOk P w K mg base CX0 (2 * k) a fd ps (LSp K (c f)) ∧ FnOk P w K mg base (L2.CX P w) (2 * k) a fd ps (LSpX K (x f)) ∧ Binds K fd ps [] ∧ (m' = "__init__" → mg c' = some (.ref Ca) ∧ Mk K Ca a)
/-- of the lambda that runs -/
def LamG (P : Program) (w : World) (K : PySem.W.Frag) (mg : PySem.Str → Option Value) (base : Heap) (k : Nat) (cc : Cal) : Prop :=
  ∀ (x : SV) (S : Sto), cc "<is lambda>" [x] S (fun _ _ => True) → ∃ (a c : Addr) (cs : List SV) (ws : List V) (fd : FuncData) (ps : List PySem.Str), x = .lam a c cs ws ∧ PySem.W.FnAt a base ∧
    FnOk P w K mg base CX0 (2 * k) a fd ps (fun vs H Q E => LSp K (cc "<lambda>") (.ref a :: vs) H Q E) ∧ Binds K fd ps []
/-- of the calls with a lambda -/
def LowG (P : Program) (w : World) (K : PySem.W.Frag) (mg : PySem.Str → Option Value) (base : Heap) (T : List PySem.Str) (k : Nat) (l : Lal) : Prop :=
  ∀ k2, k = k2 + 2 → ∃ C2 : Cal, ((∀ x S, ¬ C2 "<is lambda>" [x] S fun _ _ => True) ∧ ((∃ f vs S Q, C2 f vs S Q) → 1 ≤ k2)) ∧ ∀ base', (∀ b o, base.get? b = some o → base'.get? b = some o) →
    (∀ f ∈ T, ∃ a fd ps, mg f = some (.ref a) ∧ FnOk P w K mg base' CX0 (2 * k2) a fd ps (LSp K (C2 f)) ∧ PySem.W.keepIn K (.ref a) = true ∧ Binds K fd ps []) ∧
    ∀ f ∈ T, ∃ a fd ps, mg f = some (.ref a) ∧ PySem.W.keepIn K (.ref a) = true ∧ Binds K fd ps [] ∧ ∀ (p c' : Addr) (cs : List SV) (ws : List V) (R : Cal → List SV → Sto → SK → Prop), PySem.W.FnAt p base' →
      (∃ fdL psL, FnOk P w K mg base' CX0 (2 * (k2 + 1)) p fdL psL (fun vs H Q E => LSp K (fun xs S Q => ∃ us, xs = .lam p c' cs ws :: us ∧ R C2 us S Q) (.ref p :: vs) H Q E) ∧ Binds K fdL psL []) →
      FnOk P w K mg base' CX0 (2 * k) a fd ps (LSp K (l f (.lam p c' cs ws) R))
abbrev clsG (Pr : PySem.Str → Option Def) (c : Cal) (x : Xal) (l : Lal) (k : Nat) (E : XS) : Cls := ⟨c, x, finX E, k, fun f => (Pr f).isSome = true ∧ noDot f = true, l⟩
theorem good_of {T E : List PySem.Str} {Mt : List (PySem.Str × PySem.Str × PySem.Str)} {Pr : PySem.Str → Option Def} {g : PySem.Str → Option SV} (O : ModOk K mg T E Mt Pr g) {k : Nat} {c : Cal} {x : Xal} {l : Lal} (ih : Both P w K mg base T Mt k c x) (hl : LamG P w K mg base k c) {lf : Bool} (hL : lf = true → LowG P w K mg base T k l) {ex : XS} {d : Def} {sc : Scope} (h3 : FnScope d.N d.ps sc) {X : Cx}
    (eP : X.prog = P) (eW : X.w = w) (eK : X.K = K) (eM : X.mg = mg) (eB : X.base = base) (eN : X.N = d.N) (eS : X.env.scope = sc) (hc : X.calm = true) (hr : Room (2 * k + 1) X.A) (hst : ∀ x, (sc.names.lookup x = some .local ∨ sc.names.lookup x = some .cell) → L2.Loc X.env.scope x ∧ (X.fn x = true ∨ X.env.scope.names.lookup x = some .local))
    (hq : lf = true → X.env.qual ++ "<lambda>" = lamQ ∧ (∀ x, X.fn x = true) ∧ ∃ c P, X.env.code = .ref c ∧ LamAt X.K c P ∧ LamX.TabB X.base X.mg c P) :
    Good c g (2 * k) ⟨d.N, T, E, lf, Mt⟩ sc sc X ∧ FnX (clsG Pr c x l k ex) (2 * k) ⟨d.N, T, E, lf, Mt⟩ X := by
  subst eP eW eK eM eB
  refine ⟨⟨hc, eN, h3.nd, eS, hst, hr.mono (by omega), O.sup.1, O.bi, O.ty, O.rng, O.enu, O.zip, O.set, fun f hf => ?_, fun f c' m' hm => ?_, O.gl, O.ve, O.exc, O.fv, fun c fld hc h1 B hB => ?_, O.ex0, fun h => (by have := ih.l h; omega), hl⟩, rfl, fun f hf => O.cl f hf.1 hf.2, fun f hf => ?_, fun e => ?_, fun f c' m' hm => ?_⟩
  · obtain ⟨a, fd, ps, z1, z2, _, z3, z4⟩ := ih.t f hf
    exact ⟨a, fd, ps, z1, z2, z3, z4⟩
  · obtain ⟨Ca, a, fd, ps, z1, z2, z3, _, z4, z5⟩ := ih.m f c' m' hm
    exact ⟨Ca, a, fd, ps, z1, z2, z3, z4, hr, z5⟩
  · obtain ⟨q1, q2, fI, fd, q3, q4, q5, q6⟩ := O.ex1 c fld hc h1 B hB
    exact ⟨q1, q2, fI, fd, q3, q4, q5 _ _ _, q6⟩
  · obtain ⟨a, fd, ps, z1, _, z2, z3, z4⟩ := ih.t f hf
    exact ⟨a, fd, ps, z1, z2, z3, z4⟩
  · obtain ⟨q1, q2, q3⟩ := hq e
    exact ⟨q1, q2, q3, hL e⟩
  · obtain ⟨Ca, a, fd, ps, z1, z2, _, z3, z4, _⟩ := ih.m f c' m' hm
    exact ⟨Ca, a, fd, ps, z1, z2, z3, z4⟩
theorem fn_body {x qual : PySem.Str} {st : Stmt} {f : Addr} {fd : FuncData} {N ps : List PySem.Str} {k : Nat} {sp : Sp} (F : Fun K x qual st f fd) (S : FnScope N ps (defScope st)) (len : ∀ vs H Q E, sp vs H Q E → vs.length = ps.length)
    (hbody : ∀ (c : Addr), (∃ oc od osl, K.lookup f = some ⟨oc, od, .func fd, osl⟩) → fd.code = .ref c → ∀ (A : Around) (outer : List Env) (s : Shared) (H : Hp) (vs : List V) (Q : VK) (E : XK), Room k (A.deeper (envOfC qual (defScope st) s.heap.objs.size f (.ref c))) → sp vs H Q E →
      ∃ t, PSs (cxOf CX0 P w K mg base N qual (defScope st) f (.ref c) A outer s H E).nox (defBody st) t ∧ t { nx := fun _ H' => Q .non H', rt := Q } (L2.start N vs) H) : FnOk P w K mg base CX0 (k + 1) f fd ps sp := by
  obtain ⟨oc, od, kV, doc, pm, an, cdv, ct, osl, rfl, lk, hcd⟩ := F.ex
  have hc : ∃ c, cdv = .ref c := by
    unfold PySem.W.codeIn at hcd
    split at hcd
    · exact ⟨_, rfl⟩
    · cases hcd
  obtain ⟨c, rfl⟩ := hc
  refine fn_of lk hcd S len fun A outer s H vs Q E hr hsp => ?_
  obtain ⟨t, h, q⟩ := hbody c ⟨oc, od, osl, lk⟩ rfl A outer s H vs Q E hr hsp
  exact ⟨t, h.nox, q⟩
theorem fn_bodyX {x qual : PySem.Str} {st : Stmt} {f : Addr} {fd : FuncData} {N ps : List PySem.Str} {k : Nat} {sp : Sp} (F : Fun K x qual st f fd) (S : FnScope N ps (defScope st)) (len : ∀ vs H Q E, sp vs H Q E → vs.length = ps.length)
    (hbody : ∀ (c : Addr), (∃ oc od osl, K.lookup f = some ⟨oc, od, .func fd, osl⟩) → fd.code = .ref c → ∀ (A : Around) (outer : List Env) (s : Shared) (H : Hp) (vs : List V) (Q : VK) (E : XK), Room k (A.deeper (envOfC qual (defScope st) s.heap.objs.size f (.ref c))) → sp vs H Q E →
      ∃ t, PSs (cxOf (L2.CX P w) P w K mg base N qual (defScope st) f (.ref c) A outer s H E) (defBody st) t ∧ t { nx := fun _ H' => Q .non H', rt := Q } (L2.start N vs) H) : FnOk P w K mg base (L2.CX P w) (k + 1) f fd ps sp := by
  obtain ⟨oc, od, kV, doc, pm, an, cdv, ct, osl, rfl, lk, hcd⟩ := F.ex
  have hc : ∃ c, cdv = .ref c := by
    unfold PySem.W.codeIn at hcd
    split at hcd
    · exact ⟨_, rfl⟩
    · cases hcd
  obtain ⟨c, rfl⟩ := hc
  exact fn_of lk hcd S len fun A outer s H vs Q E hr hsp => hbody c ⟨oc, od, osl, lk⟩ rfl A outer s H vs Q E hr hsp
theorem lam_here {T E : List PySem.Str} {Mt : List (PySem.Str × PySem.Str × PySem.Str)} {Pr : PySem.Str → Option Def} {g : PySem.Str → Option SV} (O : ModOk K mg T E Mt Pr g) (HT : TabH K mg base) {f : PySem.Str} {a : Addr} {fd : FuncData} {c : Addr} (hf : f ∈ T) (hm : mg f = some (.ref a)) (e : decide (f = "all_rows") = true)
    (hk : ∃ oc od osl, K.lookup a = some ⟨oc, od, .func fd, osl⟩) (hc : fd.code = .ref c) : ∃ P, LamAt K c P ∧ LamX.TabB base mg c P := by
  obtain ⟨a', m1, n1⟩ := O.fv f hf
  rw [hm] at m1
  cases m1
  rw [of_decide_eq_true e] at n1
  obtain ⟨oc, od, osl, lk⟩ := hk
  exact HT a oc od fd osl c n1 lk hc
/-- one def, where those that it calls are known a level below -/
theorem def_ok {T E : List PySem.Str} {Mt : List (PySem.Str × PySem.Str × PySem.Str)} {Pr : PySem.Str → Option Def} {g : PySem.Str → Option SV} (O : ModOk K mg T E Mt Pr g) (HT : TabH K mg base) {k : Nat} {c : Cal} {x : Xal} {l : Lal} (ih : Both P w K mg base T Mt k c x) (hl : LamG P w K mg base k c) (hL : LowG P w K mg base T k l)
    {f nm : PySem.Str} {d : Def} {lf : Bool} (hd : Pr f = some d) {st : Stmt} {a : Addr} {fd : FuncData} (hm : lf = true → f = "all_rows" ∧ f ∈ T ∧ mg f = some (.ref a)) (h2 : Fun K nm f st a fd) (h3 : FnScope d.N d.ps (defScope st)) (h4 : cB ⟨d.N, T, E, lf, Mt⟩ (defScope st) d.body (defBody st) = true) : FnOk P w K mg base CX0 (2 * (k + 1)) a fd d.ps (LSp K fun vs S Q => runB Pr g (clsG Pr c x l k) f vs S Q noX) := by
  refine fn_body (k := 2 * k + 1) h2 h3 (fun vs H Q E h => ?_) (fun cd hk hcd A outer s H vs Q Ex hr h => ?_)
  · obtain ⟨F, M, S, xs, kq, r, q, ⟨d', e1, e2, _⟩, _⟩ := h
    rw [hd] at e1
    cases e1
    rw [← r.length, e2]
  · obtain ⟨G, Fx⟩ := good_of (X := (cxOf CX0 P w K mg base d.N f (defScope st) a (.ref cd) A outer s H Ex).nox) (l := l) (ex := noX) (lf := lf) O ih hl (fun _ => hL) h3 rfl rfl rfl rfl rfl rfl rfl rfl hr (fun x hx => ⟨hx, .inl rfl⟩) (fun e => by
      obtain ⟨ef, hf, hmf⟩ := hm e
      obtain ⟨P', q1, q2⟩ := lam_here O HT hf hmf (decide_eq_true ef) hk hcd
      refine ⟨?_, fun _ => rfl, cd, P', rfl, q1, q2⟩
      subst ef
      rfl)
    refine ⟨LS K (fun _ _ _ _ => False) (finX noX) (wB (clsG Pr c x l k noX) g d.body), ?_, ?_⟩
    · exact sB (C := clsG Pr c x l k noX) rfl rfl (fun _ => rfl) G Fx takes0 PassesOwn.never d.body h4
    · obtain ⟨F, M, S, xs, kq, r, q, ⟨d', e1, e2, hb⟩, kk⟩ := h
      rw [hd] at e1
      cases e1
      exact ⟨F, M, S, _, _, start_ok r, q, hb, ⟨fun F' S' H' ρ σ e q' _ z => fin_ok kk e q' (show RepV K F' .non .non from rfl) z, fun F' S' H' x v e q' r' z => fin_ok kk e q' r' z, fun _ _ _ _ _ _ _ _ z => z.elim, fun _ _ _ _ _ _ _ _ z => z.elim, fun _ F' S' H' e cls dx _ _ _ z => by
        obtain ⟨_, _, z⟩ := z
        exact z.elim⟩⟩
theorem def_okX {T E : List PySem.Str} {Mt : List (PySem.Str × PySem.Str × PySem.Str)} {Pr : PySem.Str → Option Def} {g : PySem.Str → Option SV} (O : ModOk K mg T E Mt Pr g) (HT : TabH K mg base) {k : Nat} {c : Cal} {x : Xal} {l : Lal} (ih : Both P w K mg base T Mt k c x) (hl : LamG P w K mg base k c) (hL : LowG P w K mg base T k l)
    {f nm : PySem.Str} {d : Def} {lf : Bool} (hd : Pr f = some d) {st : Stmt} {a : Addr} {fd : FuncData} (hm : lf = true → f = "all_rows" ∧ f ∈ T ∧ mg f = some (.ref a)) (h2 : Fun K nm f st a fd) (h3 : FnScope d.N d.ps (defScope st)) (h4 : cB ⟨d.N, T, E, lf, Mt⟩ (defScope st) d.body (defBody st) = true) : FnOk P w K mg base (L2.CX P w) (2 * (k + 1)) a fd d.ps (LSpX K (runB Pr g (clsG Pr c x l k) f)) := by
  refine fn_bodyX (k := 2 * k + 1) h2 h3 (fun vs H Q E h => ?_) (fun cd hk hcd A outer s H vs Q Ex hr h => ?_)
  · obtain ⟨F, M, S, xs, kq, ex, r, q, ⟨d', e1, e2, _⟩, _⟩ := h
    rw [hd] at e1
    cases e1
    rw [← r.length, e2]
  · obtain ⟨F, M, S, xs, kq, ex, r, q, ⟨d', e1, e2, hb⟩, kk, kx⟩ := h
    obtain ⟨G, Fx⟩ := good_of (X := cxOf (L2.CX P w) P w K mg base d.N f (defScope st) a (.ref cd) A outer s H Ex) (l := l) (ex := ex) (lf := lf) O ih hl (fun _ => hL) h3 rfl rfl rfl rfl rfl rfl rfl rfl hr (fun x hx => ⟨hx, .inl rfl⟩) (fun e => by
      obtain ⟨ef, hf, hmf⟩ := hm e
      obtain ⟨P', q1, q2⟩ := lam_here O HT hf hmf (decide_eq_true ef) hk hcd
      refine ⟨?_, fun _ => rfl, cd, P', rfl, q1, q2⟩
      subst ef
      rfl)
    refine ⟨LS K (fun cls d _ H' => Ex cls d H') (finX ex) (wB (clsG Pr c x l k ex) g d.body), ?_, ?_⟩
    · exact sB (C := clsG Pr c x l k ex) rfl rfl (fun _ => rfl) G Fx (takes_of rfl rfl rfl rfl) (passes_of rfl) d.body h4
    · rw [hd] at e1
      cases e1
      exact ⟨F, M, S, _, _, start_ok r, q, hb, ⟨fun F' S' H' ρ σ e q' _ z => fin_ok kk e q' (show RepV K F' .non .non from rfl) z, fun F' S' H' x v e q' r' z => fin_ok kk e q' r' z, fun _ _ _ _ _ _ _ _ z => z.elim, fun _ _ _ _ _ _ _ _ z => z.elim, fun _ F' S' H' e cls dx s q' rX z => by
        obtain ⟨S2, hs, z⟩ := z
        exact kx _ S2 H' e cls dx (s.trans frzF_same) (q'.freeze hs) (rX.mono frzF_same) z⟩⟩
section
variable {T E : List PySem.Str} {Mt : List (PySem.Str × PySem.Str × PySem.Str)} {Pr : PySem.Str → Option Def} {g : PySem.Str → Option SV}
theorem pr_no (O : ModOk K mg T E Mt Pr g) : Pr "<is lambda>" = none := by
  cases e : Pr "<is lambda>" with
  | none => rfl
  | some d => exact absurd (O.cl _ (by rw [e]; rfl) (by decide +kernel)) O.sup.2.1
theorem no0 (O : ModOk K mg T E Mt Pr g) : ∀ (k : Nat) (vs : List SV) (S : Sto) (Q : SK), ¬ callS0 Pr g k "<is lambda>" vs S Q
  | 0, _, _, _ => fun h => h
  | _ + 1, _, _, _ => fun ⟨d, e, _⟩ => by
    rw [pr_no O] at e
    cases e
theorem noS (O : ModOk K mg T E Mt Pr g) : ∀ (k : Nat) (vs : List SV) (S : Sto) (Q : SK), ¬ callS Pr g k "<is lambda>" vs S Q
  | 0, _, _, _ => fun h => h
  | _ + 1, _, _, _ => fun ⟨d, e, _⟩ => by
    rw [pr_no O] at e
    cases e
theorem lowG_no (O : ModOk K mg T E Mt Pr g) {k : Nat} : LowG P w K mg base T k noL := fun k2 _ => ⟨fun _ _ _ _ => False, ⟨fun _ _ h => h, fun ⟨_, _, _, _, h⟩ => h.elim⟩, fun base' _ => ⟨fun f hf => by
    obtain ⟨d, _, ⟨st, a, fd, h1, h2, _, _, h5⟩⟩ := O.fn f hf
    exact ⟨a, fd, d.ps, h1, fn_no, h2.kp, h5⟩, fun f hf => by
    obtain ⟨d, _, ⟨st, a, fd, h1, h2, _, _, h5⟩⟩ := O.fn f hf
    exact ⟨a, fd, d.ps, h1, h2.kp, h5, fun _ _ _ _ _ _ _ => fn_no⟩⟩⟩
theorem all_lf {T : List PySem.Str} {f : PySem.Str} {a : Addr} (hf : f ∈ T) (h1 : mg f = some (.ref a)) : decide (f = "all_rows") = true → f = "all_rows" ∧ f ∈ T ∧ mg f = some (.ref a) := fun e => ⟨of_decide_eq_true e, hf, h1⟩
theorem both_zero (O : ModOk K mg T E Mt Pr g) {base : Heap} : Both P w K mg base T Mt 0 (fun _ _ _ _ => False) (fun _ _ _ _ _ => False) where
  t := fun f hf => by
    obtain ⟨d, _, ⟨st, a, fd, h1, h2, _, _, h5⟩⟩ := O.fn f hf
    exact ⟨a, fd, d.ps, h1, fn_no, fn_noX, h2.kp, h5⟩
  l := fun ⟨_, _, _, _, h⟩ => h.elim
  m := fun f c' m' hm => by
    obtain ⟨_, d, _, ⟨Ca, st, a, fd, h0, h1, h2, _, _, h5, h6⟩⟩ := O.mth f c' m' hm
    exact ⟨Ca, a, fd, d.ps, h0, h1, fn_no, fn_noX, h5, h6⟩
theorem both_step (O : ModOk K mg T E Mt Pr g) {base : Heap} (HT : TabH K mg base) {k : Nat} {c : Cal} {x : Xal} {l : Lal} (ih : Both P w K mg base T Mt k c x) (hl : LamG P w K mg base k c) (hL : LowG P w K mg base T k l) :
    Both P w K mg base T Mt (k + 1) (fun f vs S Q => runB Pr g (clsG Pr c x l k) f vs S Q noX) (runB Pr g (clsG Pr c x l k)) where
  t := fun f hf => by
    obtain ⟨d, hd, ⟨st, a, fd, h1, h2, h3, h4, h5⟩⟩ := O.fn f hf
    exact ⟨a, fd, d.ps, h1, def_ok O HT ih hl hL hd (all_lf hf h1) h2 h3 h4, def_okX O HT ih hl hL hd (all_lf hf h1) h2 h3 h4, h2.kp, h5⟩
  l := fun _ => Nat.succ_le_succ (Nat.zero_le _)
  m := fun f c' m' hm => by
    obtain ⟨_, d, hd, ⟨Ca, st, a, fd, h0, h1, h2, h3, h4, h5, h6⟩⟩ := O.mth f c' m' hm
    exact ⟨Ca, a, fd, d.ps, h0, h1, def_ok (lf := false) O HT ih hl hL hd (fun e => nomatch e) h2 h3 h4, def_okX (lf := false) O HT ih hl hL hd (fun e => nomatch e) h2 h3 h4, h5, h6⟩
theorem fn_ok0 (O : ModOk K mg T E Mt Pr g) : ∀ (k : Nat) {base : Heap}, TabH K mg base → Both P w K mg base T Mt k (callS0 Pr g k) (callX0 Pr g k)
  | 0, base, _ => both_zero O
  | k + 1, base, HT => both_step O HT (fn_ok0 O k HT) (fun x S h => absurd h (no0 O k _ _ _)) (lowG_no O)
theorem calL_def {k : Nat} {x : SV} {R : Cal → List SV → Sto → SK → Prop} {f : PySem.Str} (h1 : f ≠ "<is lambda>") (h2 : f ≠ "<lambda>") : calL Pr g k x R f = callS0 Pr g (k + 1) f := by
  funext vs S Q
  unfold calL
  rw [if_neg h1, if_neg h2]
theorem dot_ne {f y : PySem.Str} (h : noDot f = false) (hy : noDot y = true) : f ≠ y := fun e => by
  rw [e, hy] at h
  cases h
theorem lowG_ok (O : ModOk K mg T E Mt Pr g) (HT : TabH K mg base) {k : Nat} : LowG P w K mg base T k (callL Pr g k) := fun k2 ek => by
  subst ek
  refine ⟨callS0 Pr g k2, ⟨fun x S => no0 O k2 _ _ _, (fn_ok0 (P := P) (w := w) O k2 HT).l⟩, fun base' ext => ⟨fun f hf => ?_, fun f hf => ?_⟩⟩
  · obtain ⟨a, fd, ps, h1, h2, _, h3, h4⟩ := (fn_ok0 (P := P) (w := w) O k2 (HT.keep ext)).t f hf
    exact ⟨a, fd, ps, h1, h2, h3, h4⟩
  · obtain ⟨d, hd, ⟨st, a, fd, h1, h2, h3, h4, h5⟩⟩ := O.fn f hf
    refine ⟨a, fd, d.ps, h1, h2.kp, h5, fun p c' cs ws R hp ⟨fdL, psL, hF, hB⟩ => ?_⟩
    have I0 := fn_ok0 (P := P) (w := w) O (k2 + 1) (HT.keep ext)
    have ih : Both P w K mg base' T Mt (k2 + 1) (calL Pr g k2 (.lam p c' cs ws) R) (callX0 Pr g (k2 + 1)) := ⟨fun f hf => by
      rw [calL_def (fun e => O.sup.2.1 (by rw [← e]; exact hf)) (fun e => O.sup.2.2 (by rw [← e]; exact hf))]
      exact I0.t f hf, fun _ => Nat.succ_le_succ (Nat.zero_le _), fun f c2 m2 hm => by
      have hnd := (O.mth f c2 m2 hm).1
      rw [calL_def (dot_ne hnd (by decide +kernel)) (dot_ne hnd (by decide +kernel))]
      exact I0.m f c2 m2 hm⟩
    have hl : LamG P w K mg base' (k2 + 1) (calL Pr g k2 (.lam p c' cs ws) R) := fun x S h => by
      have h : [x] = [.lam p c' cs ws] := h
      cases h
      exact ⟨p, c', cs, ws, fdL, psL, rfl, hp, hF, hB⟩
    exact def_ok O (HT.keep ext) ih hl (lowG_no O) hd (all_lf hf h1) h2 h3 h4
theorem fn_ok (O : ModOk K mg T E Mt Pr g) (HT : TabH K mg base) : ∀ (k : Nat), Both P w K mg base T Mt k (callS Pr g k) (callX Pr g k)
  | 0 => both_zero O
  | k + 1 => both_step O HT (fn_ok O HT k) (fun x S h => absurd h (noS O k _ _ _)) (lowG_ok O HT)
end
/-! classes of refusals, of what the kept text says -/
/-- what the kept text says of a class -/
structure ClsT (K : PySem.W.Frag) (c : PySem.Str) (C : Addr) : Prop where
  ns : PySem.W.nsIn K mainGlobals c = some (some (.ref C))
  bx : PySem.W.subIn K (.ref C) (.type "BaseException") = some true
  ty : PySem.W.typeIn K (.ref C) = some (.type "type")
  hg : PySem.W.findIn K (.ref C) "__getattribute__" = some (some (.builtin "BaseException.__getattribute__"))
  hk : PySem.W.findIn K (.ref C) "__getattr__" = some none
  hd : PySem.W.hasDictIn K C = true
  ha : PySem.W.findIn K (.ref C) "__class__" = some (some (.builtin "object.__class__"))
  hm : PySem.W.mroIn K C (.type "object") = some true
  ve : PySem.W.subIn K (.ref C) (.type "ValueError") = some true
  ic : PySem.W.isClsIn K C = true
  nf : ∀ f ∈ exF, PySem.W.findIn K (.ref C) f = some none
theorem lookup_mem {l : List (PySem.Str × Def)} {f : PySem.Str} (h : (l.lookup f).isSome = true) : f ∈ l.map Prod.fst := by
  induction l with
  | nil => cases h
  | cons p l ih =>
    rw [List.lookup_cons] at h
    rw [List.map_cons, List.mem_cons]
    cases e : f == p.1 with
    | true => exact .inl (beq_iff_eq.mp e)
    | false =>
      rw [e] at h
      exact .inr (ih h)
/-- the law's promise -/
def spLaw (K : PySem.W.Frag) : Sp := fun vs H Q _ => ∃ (a : Addr) (ns : List Int), vs = [.ref a] ∧ SqL K H a (ns.map V.int) ∧ ns.length ≤ 63 ∧ (∀ c P, LamAt K c P → H P = some (.tbl #[])) ∧ ∀ H', Q (.bl true) H'
/-- THE LINK: what the small program gives for every script -/
def Gives (Pr : PySem.Str → Option Def) (g : PySem.Str → Option SV) (k : Nat) : Prop := ∀ ns : List Int, ns.length ≤ 63 → callS Pr g k "law" [.scr (ns.map SV.int)] (fun _ => none) fun v _ => v = .bl true
theorem rep_map_int {F : Hp} : ∀ ns : List Int, RepL K F (ns.map SV.int) (ns.map V.int)
  | [] => rfl
  | n :: ns => ⟨.int n, ns.map V.int, rfl, rfl, rep_map_int ns⟩
/-- all but the tables -/
def noTb (H : Hp) : Hp := fun b => match H b with
  | some (.tbl _) => none
  | x => x
theorem noTb_of {H : Hp} {b : Addr} {o : HO} (h : noTb H b = some o) : H b = some o := by
  unfold noTb at h
  split at h
  · cases h
  · exact h
theorem noTb_tb {H : Hp} {b : Addr} {ps : Array Value} (h : H b = some (.tbl ps)) : noTb H b = none := by
  unfold noTb
  rw [h]
theorem noTb_keep {H : Hp} {b : Addr} {o : HO} (h : H b = some o) (n : ∀ ps, o ≠ .tbl ps) : noTb H b = some o := by
  unfold noTb
  split
  · rename_i ps e
    rw [h] at e
    exact absurd (Option.some.inj e) (n ps)
  · exact h
theorem law_imp {Pr : PySem.Str → Option Def} {g : PySem.Str → Option SV} {k : Nat} (h : Gives Pr g k) : ∀ vs H Q E, spLaw K vs H Q E → LSp K (callS Pr g k "law") vs H Q E := by
  rintro vs H Q E ⟨a, ns, rfl, hS, hl, hT, q⟩
  have s0 : Sim K (noTb H) (fun _ => none) (fun _ => none) H := by
    refine ⟨fun _ _ e => noTb_of e, fun b o e => ?_, fun b o e => ?_, fun c P l => ?_⟩
    · cases e
    · cases e
    · have hP := hT c P l
      exact ⟨noTb_tb hP, rfl, rfl, #[], hP, True.intro, fun pos cv z => by
        have z : codeAmong pos [] = some cv := z
        simp [codeAmong] at z⟩
  have hS' : SqL K (noTb H) a (ns.map V.int) := by
    rcases hS with z | z
    · rcases z with z | ⟨o, z⟩
      · exact .inl (.inl (noTb_keep z fun ps e => by cases e))
      · exact .inl (.inr ⟨o, noTb_keep z fun ps e => by cases e⟩)
    · exact .inr z
  refine ⟨noTb H, fun _ => none, fun _ => none, [.scr (ns.map SV.int)], _, RepL.single ⟨a, ns.map V.int, rfl, hS', rep_map_int ns⟩, s0, h ns hl, fun F' S' H' x v e q' r z => ?_⟩
  subst z
  rw [show v = .bl true from r]
  exact q H'
end
end Sy

namespace Sy
open PySem PySem.Spec PyProof.Rows L2
/-! ### the end -/
theorem fn_law {P : Program} {w : World} {K : PySem.W.Frag} {mg : PySem.Str → Option Value} {base : Heap} {T E : List PySem.Str} {Mt : List (PySem.Str × PySem.Str × PySem.Str)} {Pr : PySem.Str → Option Def} {g : PySem.Str → Option SV} (O : ModOk K mg T E Mt Pr g) (HT : TabH K mg base) {k : Nat} {f : PySem.Str} {d : Def} (hd : Pr f = some d) {st : Stmt} {a : Addr} {fd : FuncData}
    (hf : f ∈ T) (hm : mg f = some (.ref a)) (h2 : Fun K f f st a fd) (h3 : FnScope d.N d.ps (defScope st)) (h4 : cB ⟨d.N, T, E, decide (f = "all_rows"), Mt⟩ (defScope st) d.body (defBody st) = true) : FnOk P w K mg base CX0 (2 * (k + 1)) a fd d.ps (LSp K (callS Pr g (k + 1) f)) :=
  def_ok O HT (fn_ok O HT k) (fun x S h => absurd h (noS O k _ _ _)) (lowG_ok O HT) hd (all_lf hf hm) h2 h3 h4
/-- the code object of the def that makes lambdas stands there, with its table, which is apart -/
def CodeK (K : PySem.W.Frag) : Prop := ∀ fa oc od fd sl c, PySem.W.nsIn K mainGlobals "all_rows" = some (some (.ref fa)) → K.lookup fa = some ⟨oc, od, .func fd, sl⟩ → fd.code = .ref c → ∃ e dd vs sl2 P, K.lookup c = some ⟨e, dd, .fields vs, sl2⟩ ∧ vs[11]? = some (.ref P) ∧ K.lookup P = none
theorem walk_lam {l : PySem.W.OpenLaw} {q : Program} {loose : List PySem.Str} {XP : (PySem.Str → Option Value) → Heap → Prop} {YP : World → Heap → Prop} {d : DefRec} {K : Params → PySem.W.Frag} (hn : l.most = some 63) (hdf : d.params.defaults = [])
    (hrec : ((recsOf q).any fun e => e.name == ("all_rows" : PySem.Str)) = true) (hY : ∀ (w : World) (h : Heap), YP w h → (K w.params).In h)
    (F : ∀ (w : World) (mg : PySem.Str → Option Value) (fa : Addr) (h : Heap), (K w.params).In h → h.Ns mainGlobals mg → mg d.name = some (.ref fa) → CodeK (K w.params) ∧ (∃ (fa : Addr) (oc : Value) (od : Option Addr) (fd : FuncData) (sl : Array (Option Value)) (c : Addr), PySem.W.nsIn (K w.params) mainGlobals "all_rows" = some (some (.ref fa)) ∧ (K w.params).lookup fa = some ⟨oc, od, .func fd, sl⟩ ∧ fd.code = .ref c) ∧
      ∃ fd : FuncData, (∀ (s : Shared) (u : Value), BindsTo s fd ⟨[u], []⟩ [("script", u)]) ∧ ∀ base : Heap, (K w.params).In base → base.Ns mainGlobals mg → TabH (K w.params) mg base → FnOk l.prog w (K w.params) mg base CX0 80 fa fd ["script"] (spLaw (K w.params))) :
    PySem.W.WalkO q loose XP YP l.row.toRowW d [] (fun f vs => PySem.call f vs) := by
  refine Att.attach_callB hn hdf fun w s₀ s₁ mg mb fa o pm cd doc a vs ns G Y ho hd hcd hmg hobj hints hlen hbits hg => ?_
  have KX := hY w _ Y
  obtain ⟨hC, ⟨fa0, oc0, od0, fd0, sl0, c0, n1, n2, n3⟩, fd, hb, hF⟩ := F w mg fa _ KX G.T.g hmg
  obtain ⟨e0, dd0, vs0, sl20, P0, n4, n5, n6⟩ := hC fa0 oc0 od0 fd0 sl0 c0 n1 n2 n3
  have L0 : LamAt (K w.params) c0 P0 := ⟨fa0, oc0, od0, fd0, sl0, e0, dd0, vs0, sl20, n1, n2, n3, n4, n5⟩
  obtain ⟨dL, hm, hn1⟩ := List.any_eq_true.mp hrec
  have hn2 : dL.name = "all_rows" := beq_iff_eq.mp hn1
  obtain ⟨a', o', fd', c', P', h1, h2, h3, h4, h5, h6⟩ := G.T.tab dL hm
  rw [hn2, PySem.W.mg_of KX G.T.g n1] at h1
  cases h1
  rw [KX _ _ n2] at h2
  cases h2
  have h3 : Data.func fd0 = Data.func fd' := h3
  cases h3
  rw [n3] at h4
  cases h4
  have hT := h6.2
  have hCd := PySem.W.CodeHd.of h5 h6
  have eP : P0 = P' := by
    obtain ⟨⟨oc, vc, e1, _, e3, e4⟩, _⟩ := h6
    rw [KX _ _ n4] at e1
    cases e1
    cases e3
    rw [n5] at e4
    cases e4
    rfl
  subst eP
  refine LamX.law_callTs (cs := [(c0, P0)]) (k := 80) (CX := CX0) (sp := spLaw (K w.params)) KX G.T.g G.T.b G.T.builtins G.T.nolimit hg (fun p hp => ?_) (fun p hp => ?_) (fun p hp => ?_) G.T.bmain hobj hints (Nat.le_trans hlen (by decide)) ⟨rfl, by decide, by decide⟩ (fun base h1 h2 h3 => hF base h1 h2 fun fa oc od fd sl c g1 g2 g3 => ?_) hb (fun H hH hS => ⟨a, ns, rfl, hS, hlen, fun c P h => ?_, fun _ => rfl⟩) fun H e s' z => z
  · rw [List.mem_singleton.mp hp]; exact hT
  · rw [List.mem_singleton.mp hp]; exact n6
  · rw [List.mem_singleton.mp hp]; exact hCd
  · obtain ⟨e2, dd2, vs2, sl22, P2, m4, m5, m6⟩ := hC fa oc od fd sl c g1 g2 g3
    have L2' : LamAt (K w.params) c P2 := ⟨fa, oc, od, fd, sl, e2, dd2, vs2, sl22, g1, g2, g3, m4, m5⟩
    obtain ⟨ec, eP⟩ := L0.uniq L2'
    subst ec eP
    exact ⟨P0, L2', h3 (c0, P0) (List.mem_singleton.mpr rfl)⟩
  · obtain ⟨_, eP⟩ := L0.uniq h
    subst eP
    exact hH (c0, P0) (List.mem_singleton.mpr rfl)
end Sy

namespace Sy
open PySem PySem.Spec PyProof.Rows L2

/-! ### plain words for what the small tree asks -/
section
variable {S : Sto} {x y v : SV} {l m : List SV} {i j : Int} {a b : PySem.Str} {p : Addr} {k : SK} {q : Bool → Prop}
theorem callX_fold {P : PySem.Str → Option Def} {g : PySem.Str → Option SV} {n : Nat} {f : PySem.Str} {vs : List SV} {Q : SK} : callX P g n f vs S Q noX = callS P g n f vs S Q := rfl
theorem eqv_int : PyData.eqv (.int i) (.int j) = decide (i = j) := by
  by_cases h : i = j <;> simp [PyData.eqv, h]
theorem eqv_str : PyData.eqv (.str a) (.str b) = decide (a = b) := by
  by_cases h : a = b <;> simp [PyData.eqv, h]
theorem toDT_none {d : PyData} (h : toDS S x = some d) : toDT S x = none := by
  unfold toDT
  split
  · rw [h]
  · rfl
theorem eqS_of {d e : PyData} (h1 : toDS S x = some d) (h2 : toDS S y = some e) (s1 : SeqAt.shaped d = true) (s2 : SeqAt.shaped e = true) : eqS S x y q = q (d.eqv e) := by
  refine propext ⟨?_, fun h => ⟨d, e, .inl h1, .inl h2, s1, s2, h⟩⟩
  rintro ⟨d', e', h1', h2', _, _, h⟩
  rw [h1, toDT_none h1] at h1'
  rw [h2, toDT_none h2] at h2'
  replace h1' := h1'.resolve_right (fun z => nomatch z)
  replace h2' := h2'.resolve_right (fun z => nomatch z)
  cases h1'
  cases h2'
  exact h
theorem eqS_int : eqS S (.int i) (.int j) q = q (decide (i = j)) := by
  rw [eqS_of (d := .int i) (e := .int j) rfl rfl (by simp [SeqAt.shaped, PyData.canLay0, PyData.depth]) (by simp [SeqAt.shaped, PyData.canLay0, PyData.depth]), eqv_int]
theorem eqS_str (ha : PyData.strOk a = true) (hb : PyData.strOk b = true) : eqS S (.str a) (.str b) q = q (decide (a = b)) := by
  rw [eqS_of (d := .str a) (e := .str b) rfl rfl (by simp [SeqAt.shaped, PyData.canLay0, PyData.depth, ha]) (by simp [SeqAt.shaped, PyData.canLay0, PyData.depth, hb]), eqv_str]
theorem items_own (h : S p = some (.lst l)) : items S (.own p) = some l := by
  unfold items
  simp only [h]
theorem seqOf_own (h : S p = some (.lst l)) : seqOf S (.own p) = some l := items_own h
theorem seqOf_lst : seqOf S (.lst l) = some l := rfl
theorem seqOf_tup : seqOf S (.tup l) = some l := rfl
theorem seqOf_scr : seqOf S (.scr l) = some l := rfl
theorem items_lst : items S (.lst l) = some l := rfl
theorem idx_lst : idxS (.lst l) (.int i) S k = ∃ v, atI l i = some v ∧ k v S := by
  unfold idxS
  simp only [dicS, seqOf_lst, SV.int.injEq, Option.some.injEq, exists_and_left, exists_eq_left']
theorem idx_tup : idxS (.tup l) (.int i) S k = ∃ v, atI l i = some v ∧ k v S := by
  unfold idxS
  simp only [dicS, seqOf_tup, SV.int.injEq, Option.some.injEq, exists_and_left, exists_eq_left']
theorem seqOf_tuf : seqOf S (.tuf l) = some l := rfl
theorem idx_tuf : idxS (.tuf l) (.int i) S k = ∃ v, atI l i = some v ∧ k v S := by
  unfold idxS
  simp only [dicS, seqOf_tuf, SV.int.injEq, Option.some.injEq, exists_and_left, exists_eq_left']
theorem len_tuf : lenS (.tuf l) S k = k (.int l.length) S := by
  unfold lenS
  simp only [seqOf_tuf, Option.some.injEq, exists_eq_left']
theorem idx_str : idxS (.str a) (.int i) S k = (a.length ≤ sizeLine ∧ ∃ c, atI a.cps.toList i = some c ∧ k (.str ⟨#[c]⟩) S) := rfl
theorem len_own (h : S p = some (.lst l)) : lenS (.own p) S k = k (.int l.length) S := by
  unfold lenS
  simp only [seqOf_own h, Option.some.injEq, exists_eq_left']
theorem len_lst : lenS (.lst l) S k = k (.int l.length) S := by
  unfold lenS
  simp only [seqOf_lst, Option.some.injEq, exists_eq_left']
theorem len_tup : lenS (.tup l) S k = k (.int l.length) S := by
  unfold lenS
  simp only [seqOf_tup, Option.some.injEq, exists_eq_left']
theorem len_scr : lenS (.scr l) S k = k (.int l.length) S := by
  unfold lenS
  simp only [seqOf_scr, Option.some.injEq, exists_eq_left']
theorem at_0 : atI (x :: l) 0 = some x := by
  have : atI (x :: l) ((0 : Nat) : Int) = some x := atI_nat (by rfl)
  exact this
theorem at_1 : atI (x :: y :: l) 1 = some y := by
  have : atI (x :: y :: l) ((1 : Nat) : Int) = some y := atI_nat (by rfl)
  exact this
theorem at_2 : atI (x :: y :: v :: l) 2 = some v := by
  have : atI (x :: y :: v :: l) ((2 : Nat) : Int) = some v := atI_nat (by rfl)
  exact this
theorem ixN_of {n : Nat} {i : Int} (h : 0 ≤ i) (h2 : i < n) : ixN n i = some i.toNat := by
  unfold ixN
  rw [if_pos h, if_pos h2]
theorem at_of {α : Type} {l : List α} {i : Int} (h : 0 ≤ i) (h2 : i < l.length) : atI l i = some (l[i.toNat]'(by omega)) := by
  unfold atI
  rw [ixN_of h h2]
  simp
theorem some_ex {α : Type} {a : α} {P : α → Prop} : (∃ b, some a = some b ∧ P b) = P a := by simp
theorem some_ex2 {α : Type} {a : α} {P : α → Prop} : (∃ b, some (some a) = some (some b) ∧ P b) = P a := by simp
theorem bl_ex {b : Bool} {P : Bool → Prop} : (∃ q, SV.bl b = .bl q ∧ P q) = P b := by simp
theorem int_ex {i : Int} {P : Int → Prop} : (∃ q, SV.int i = .int q ∧ P q) = P i := by simp
end
section
variable {S : Sto} {x y v : SV} {l m : List SV} {i j : Int} {a b : PySem.Str} {p : Addr} {k : SK} {own : Bool} {t : Bool}
theorem opI_int {C : Int → Int → Prop} {g : Int → Int → Int} : opI C g (.int i) (.int j) S k = (C i j ∧ k (.int (g i j)) S) := rfl
theorem add_int : opAdd own (.int i) (.int j) S k = k (.int (i + j)) S := rfl
theorem add_str : opAdd own (.str a) (.str b) S k = (a.length + b.length ≤ sizeLine ∧ k (.str (a ++ b)) S) := rfl
theorem add_tup : opAdd own (.tup l) (.tup m) S k = (l.length + m.length ≤ sizeLine ∧ k (.tup (l ++ m)) S) := rfl
theorem add_ll : opAdd own (.lst l) (.lst m) S k = newL own (l ++ m) S k := by
  unfold opAdd
  simp only [tupOf, Option.isSome_none, Bool.false_eq_true, if_false, items_lst, Option.some.injEq, exists_and_left, exists_eq_left']
theorem newL_f : newL false l S k = (l.length ≤ sizeLine ∧ k (.lst l) S) := by simp [newL]
theorem newL_t : newL true l S k = (l.length ≤ sizeLine ∧ ∀ p, S p = none → k (.own p) (supd S p (.lst l))) := by simp [newL]
theorem mul_int : opMul own (.int i) (.int j) S k = (CMul i j ∧ k (.int (i * j)) S) := rfl
theorem ord_int {f : Int → Int → Bool} {g : List Nat → List Nat → Bool} {t : List (List Nat) → List (List Nat) → Bool} : ordS f g t (.int i) (.int j) S k = k (.bl (f i j)) S := rfl
theorem ord_str {f : Int → Int → Bool} {g : List Nat → List Nat → Bool} {t : List (List Nat) → List (List Nat) → Bool} : ordS f g t (.str a) (.str b) S k = k (.bl (g a.cps.toList b.cps.toList)) S := rfl
theorem int_int : intS (.int i) S k = k (.int i) S := rfl
theorem int_bl : intS (.bl t) S k = k (.int (if t = true then 1 else 0)) S := rfl
theorem mn_str : mnS (.str a) (.str b) S k = k (.str (if b.cps.toList < a.cps.toList then b else a)) S := rfl
theorem mx_str : mxS (.str a) (.str b) S k = k (.str (if a.cps.toList < b.cps.toList then b else a)) S := rfl
theorem mn_int : mnS (.int i) (.int j) S k = k (.int (if j < i then j else i)) S := rfl
theorem mx_int : mxS (.int i) (.int j) S k = k (.int (if j > i then j else i)) S := rfl
theorem tuple_tup : tupleS own (.tup l) S k = k (.tup l) S := rfl
theorem tuple_tuf : tupleS own (.tuf l) S k = k (.tuf l) S := rfl
theorem tuple_lstT : tupleS true (.lst l) S k = k (.tup l) S := by
  unfold tupleS
  simp only [items_lst, Option.some.injEq, exists_and_left, exists_eq_left', if_true]
theorem tuple_lst : tupleS false (.lst l) S k = k (.tuf l) S := by
  unfold tupleS
  simp only [items_lst, Option.some.injEq, exists_eq_left', Bool.false_eq_true, if_false]
theorem sl_lst {lo hi : Option Int} : slS own (.lst l) lo hi S k = newL own (cutL l lo hi) S k := by
  unfold slS
  simp only [items_lst, Option.some.injEq, exists_eq_left']
theorem sl_tup {lo hi : Option Int} : slS own (.tup l) lo hi S k = k (.tup (cutL l lo hi)) S := rfl
theorem sl_tuf {lo hi : Option Int} : slS own (.tuf l) lo hi S k = (k (.tup (cutL l lo hi)) S ∧ (cutL l lo hi = l → k (.tuf l) S)) := rfl
theorem sl_scr {lo hi : Option Int} : slS own (.scr l) lo hi S k = newL own (cutL l lo hi) S k := rfl
theorem sl_str {lo hi : Option Int} : slS own (.str a) lo hi S k = (a.length ≤ sizeLine ∧ k (.str (cutS a lo hi)) S) := rfl
theorem it_lst {q : List SV → Prop} : itS .seq [.lst l] S q = q l := rfl
theorem it_str {w : PySem.Str} {q : List SV → Prop} : itS .seq [.str w] S q = q (w.cps.toList.map fun c => SV.str ⟨#[c]⟩) := rfl
theorem it_tup {q : List SV → Prop} : itS .seq [.tup l] S q = q l := rfl
theorem it_tuf {q : List SV → Prop} : itS .seq [.tuf l] S q = q l := rfl
theorem it_enU {q : List SV → Prop} : itS .enum [.tuf l] S q = q (enumL l 0) := rfl
theorem it_zU {q : List SV → Prop} : itS .zip [.tuf l, .tuf m] S q = q (zipL l m) := rfl
theorem it_rng1 {q : List SV → Prop} : itS .rng1 [.int j] S q = (-(2 ^ 62) ≤ j ∧ j < 2 ^ 62 ∧ q (rngL 0 j.toNat)) := rfl
theorem it_rng2 {q : List SV → Prop} : itS .rng2 [.int i, .int j] S q = ((-(2 ^ 62) ≤ i ∧ i < 2 ^ 62 ∧ -(2 ^ 62) ≤ j ∧ j < 2 ^ 62) ∧ q (rngL i (j - i).toNat)) := rfl
theorem it_enL {q : List SV → Prop} : itS .enum [.lst l] S q = q (enumL l 0) := rfl
theorem it_enT {q : List SV → Prop} : itS .enum [.tup l] S q = q (enumL l 0) := rfl
theorem it_zL {q : List SV → Prop} : itS .zip [.lst l, .lst m] S q = q (zipL l m) := rfl
theorem it_zT {q : List SV → Prop} : itS .zip [.tup l, .tup m] S q = q (zipL l m) := rfl
theorem append_own (h : S p = some (.lst l)) : appendS (.own p) v S k = (l.length < sizeLine ∧ k .non (supd S p (.lst (l ++ [v])))) := by
  unfold appendS
  simp only [h, Option.some.injEq, SO.lst.injEq, exists_and_left, exists_eq_left']
theorem rng_at {lo : Int} {n i : Nat} {x : SV} (h : (rngL lo n)[i]? = some x) : x = .int (lo + (i : Int)) ∧ i < n := by
  unfold rngL at h
  rw [List.getElem?_map] at h
  obtain ⟨j, h1, h2⟩ := Option.map_eq_some_iff.mp h
  have hi := (List.getElem?_eq_some_iff.mp h1).1
  rw [List.length_range] at hi
  rw [List.getElem?_range hi] at h1
  cases h1
  exact ⟨h2.symm, hi⟩
theorem rng_ln {lo : Int} {n : Nat} : (rngL lo n).length = n := by simp [rngL]
theorem cmul_r {i j : Int} (h1 : -1000000000000 < j) (h2 : j < 1000000000000) : CMul i j := .inr ⟨by omega, by omega⟩
theorem cmul_l {i j : Int} (h1 : -1000000000000 < i) (h2 : i < 1000000000000) : CMul i j := .inl ⟨by omega, by omega⟩
theorem cdiv_ {i j : Int} (h1 : 0 < j) (h2 : j < 1073741824) : CDivN i j := ⟨by omega, by omega⟩
theorem fin_same {Q : SK} (h : Q v S) : fin Q v S := ⟨S, v, fun _ _ e => e, .same v, h⟩
end
/-- a loop by an invariant -/
theorem for_inv {t : MT} {body : SS} {D : SD} (I : Nat → Ro → Sto → Prop) {l : List SV} {ρ : Ro} {S : Sto} (h0 : I 0 ρ S)
    (step : ∀ (i : Nat) (x : SV) (ρ : Ro) (S : Sto) (D' : SD), l[i]? = some x → I i ρ S → (∀ ρ S, I (i + 1) ρ S → D'.nx ρ S) → (∀ ρ S, I (i + 1) ρ S → D'.ct ρ S) → D'.rt = D.rt → D'.bk = D.nx → tgS t S x ρ fun ρ' => body D' ρ' S)
    (fin : ∀ ρ S, I l.length ρ S → D.nx ρ S) : forRun t body D l ρ S := by
  have go : ∀ (r : List SV) (i : Nat) (ρ : Ro) (S : Sto), (∀ j, r[j]? = l[i + j]?) → I i ρ S → i + r.length = l.length → forRun t body D r ρ S := by
    intro r
    induction r with
    | nil =>
      intro i ρ S _ h e
      have e' : i = l.length := by simpa using e
      rw [e'] at h
      exact fin ρ S h
    | cons x r ih =>
      intro i ρ S hr h e
      have hx : l[i]? = some x := by
        have := hr 0
        simpa using this.symm
      have nxt : ∀ ρ S, I (i + 1) ρ S → forRun t body D r ρ S := fun ρ S h => ih (i + 1) ρ S (fun j => by
        have := hr (j + 1)
        rw [List.getElem?_cons_succ] at this
        rw [this]
        congr 1
        omega) h (by simp at e; omega)
      exact step i x ρ S ⟨forRun t body D r, D.rt, D.nx, forRun t body D r⟩ hx h nxt nxt rfl rfl
  exact go l 0 ρ S (fun j => by simp) h0 (by simp)
/-- a comprehension by an invariant -/
theorem lc_inv {t : MT} {ρ : Ro} {cc : Ro → Sto → (Bool → Sto → Prop) → Prop} {ec : SE} {Q : List SV → Sto → Prop} (J : Nat → List SV → Sto → Prop) {l : List SV} {S : Sto} (h0 : J 0 [] S) (hz : l.length ≤ sizeLine)
    (step : ∀ (i : Nat) (x : SV) (acc : List SV) (S : Sto) (k : SK) (k' : Sto → Prop), l[i]? = some x → J i acc S → (∀ v S', J (i + 1) (acc ++ [v]) S' → k v S') → (∀ S', J (i + 1) acc S' → k' S') → tgS t S x ρ fun ρ' => cc ρ' S fun b S' => if b = true then ec ρ' S' k else k' S')
    (fin : ∀ acc S, J l.length acc S → Q acc S) : lcRun t ρ cc ec l [] S Q := by
  have go : ∀ (r : List SV) (i : Nat) (acc : List SV) (S : Sto), (∀ j, r[j]? = l[i + j]?) → J i acc S → i + r.length = l.length → acc.length ≤ i → lcRun t ρ cc ec r acc S Q := by
    intro r
    induction r with
    | nil =>
      intro i acc S _ h e _
      have e' : i = l.length := by simpa using e
      rw [e'] at h
      exact fin acc S h
    | cons x r ih =>
      intro i acc S hr h e hl
      have hx : l[i]? = some x := by
        have := hr 0
        simpa using this.symm
      have hr' : ∀ j, r[j]? = l[i + 1 + j]? := fun j => by
        have := hr (j + 1)
        rw [List.getElem?_cons_succ] at this
        rw [this]
        congr 1
        omega
      have e' : i + 1 + r.length = l.length := by simp at e; omega
      refine step i x acc S _ (fun S' => lcRun t ρ cc ec r acc S' Q) hx h (fun v S' hj => ⟨?_, ?_⟩) (fun S' hj => ?_)
      · omega
      · exact ih (i + 1) (acc ++ [v]) S' hr' hj e' (by simp; omega)
      · exact ih (i + 1) acc S' hr' hj e' (by omega)
  exact go l 0 [] S (fun j => by simp) h0 (by simp) (by simp)
/-- a comprehension that changes nothing -/
theorem lc_pure {t : MT} {ρ : Ro} {cc : Ro → Sto → (Bool → Sto → Prop) → Prop} {ec : SE} {Q : List SV → Sto → Prop} (f : SV → Option SV) {l : List SV} {S : Sto} (hz : l.length ≤ sizeLine)
    (step : ∀ x ∈ l, ∀ (k : SK) (k' : Sto → Prop), (∀ v, f x = some v → k v S) → (f x = none → k' S) → tgS t S x ρ fun ρ' => cc ρ' S fun b S' => if b = true then ec ρ' S' k else k' S')
    (fin : Q (l.filterMap f) S) : lcRun t ρ cc ec l [] S Q := by
  refine lc_inv (fun i acc S' => acc = (l.take i).filterMap f ∧ S' = S) ⟨by simp, rfl⟩ hz (fun i x acc S' k k' hx ⟨e1, e2⟩ h1 h2 => ?_) (fun acc S' ⟨e1, e2⟩ => ?_)
  · subst e2
    have hm : x ∈ l := List.mem_of_getElem? hx
    have ht : l.take (i + 1) = l.take i ++ [x] := by
      rw [List.take_add_one, hx]
      rfl
    refine step x hm k k' (fun v hv => h1 v _ ⟨?_, rfl⟩) (fun hn => h2 _ ⟨?_, rfl⟩)
    · rw [ht, List.filterMap_append, ← e1]
      simp [hv]
    · rw [ht, List.filterMap_append, ← e1]
      simp [hn]
  · rw [e1, e2, List.take_length]
    exact fin

/-- the same, of a list that is told by other things -/
theorem lc_on {α : Type} {t : MT} {ρ : Ro} {cc : Ro → Sto → (Bool → Sto → Prop) → Prop} {ec : SE} {Q : List SV → Sto → Prop} (enc : α → SV) (f : α → Option SV) {l : List α} {S : Sto} (hz : l.length ≤ sizeLine)
    (step : ∀ x ∈ l, ∀ (k : SK) (k' : Sto → Prop), (∀ v, f x = some v → k v S) → (f x = none → k' S) → tgS t S (enc x) ρ fun ρ' => cc ρ' S fun b S' => if b = true then ec ρ' S' k else k' S')
    (fin : Q (l.filterMap f) S) : lcRun t ρ cc ec (l.map enc) [] S Q := by
  refine lc_inv (fun i acc S' => acc = (l.take i).filterMap f ∧ S' = S) ⟨by simp, rfl⟩ (by rw [List.length_map]; exact hz) (fun i x acc S' k k' hx ⟨e1, e2⟩ h1 h2 => ?_) (fun acc S' ⟨e1, e2⟩ => ?_)
  · subst e2
    rw [List.getElem?_map] at hx
    obtain ⟨a, ha, rfl⟩ := Option.map_eq_some_iff.mp hx
    have hm : a ∈ l := List.mem_of_getElem? ha
    have ht : l.take (i + 1) = l.take i ++ [a] := by
      rw [List.take_add_one, ha]
      rfl
    refine step a hm k k' (fun v hv => h1 v _ ⟨?_, rfl⟩) (fun hn => h2 _ ⟨?_, rfl⟩)
    · rw [ht, List.filterMap_append, ← e1]
      simp [hv]
    · rw [ht, List.filterMap_append, ← e1]
      simp [hn]
  · rw [e1, e2, List.length_map, List.take_length]
    exact fin

/-! ### the deck -/
def DkAt (p c : Addr) (S : Sto) : Prop := c ≠ p ∧ ∃ (cells : List Int) (at_ sd : Int), cells ≠ [] ∧ S p = some (.lst [.own c, .int at_, .int sd]) ∧ S c = some (.lst (cells.map SV.int))
/-- nothing but the deck is changed -/
def Dk (p c : Addr) (S S' : Sto) : Prop := DkAt p c S' ∧ ∀ a, a ≠ p → a ≠ c → S' a = S a
theorem Dk.trans {p c : Addr} {S S1 S2 : Sto} (h : Dk p c S S1) (g : Dk p c S1 S2) : Dk p c S S2 := ⟨g.1, fun a h1 h2 => (g.2 a h1 h2).trans (h.2 a h1 h2)⟩
theorem DkAt.rfl' {p c : Addr} {S : Sto} (h : DkAt p c S) : Dk p c S S := ⟨h, fun _ _ _ => rfl⟩
theorem DkAt.upd {p c f : Addr} {S : Sto} {o : SO} (h : DkAt p c S) (hp : f ≠ p) (hc : f ≠ c) : DkAt p c (supd S f o) := by
  obtain ⟨hn, cells, a, sd, h0, h1, h2⟩ := h
  exact ⟨hn, cells, a, sd, h0, by rw [supd_ne (Ne.symm hp)]; exact h1, by rw [supd_ne (Ne.symm hc)]; exact h2⟩
theorem DkAt.new {p c f : Addr} {S : Sto} (h : DkAt p c S) (hf : S f = none) : f ≠ p ∧ f ≠ c := by
  obtain ⟨_, _, _, _, _, hp, hc⟩ := h
  exact ⟨fun e => (by rw [e, hp] at hf; cases hf), fun e => (by rw [e, hc] at hf; cases hf)⟩
theorem wo_sub {S : Sto} {f : Addr} : Sub (wo S f) S := fun a o e => by
  by_cases h : a = f
  · rw [h, wo_same] at e
    cases e
  · rw [wo_ne h] at e
    exact e
theorem wo_frz {S : Sto} {f : Addr} {l : List SV} (h : S f = some (.lst l)) : Frz S (wo S f) (.own f) (.lst l) := .lst h wo_same
theorem DkAt.wo {p c f : Addr} {S : Sto} (h : DkAt p c S) (hp : f ≠ p) (hc : f ≠ c) : DkAt p c (wo S f) := by
  obtain ⟨hn, cells, a, sd, h0, h1, h2⟩ := h
  exact ⟨hn, cells, a, sd, h0, by rw [wo_ne (Ne.symm hp)]; exact h1, by rw [wo_ne (Ne.symm hc)]; exact h2⟩
/-- nothing but the deck and f is changed, and f was not there -/
theorem Dk.wo {p c f : Addr} {S S' : Sto} (hf : S f = none) (h : DkAt p c S') (hp : f ≠ p) (hc : f ≠ c) (fr : ∀ a, a ≠ p → a ≠ c → a ≠ f → S' a = S a) : Dk p c S (wo S' f) :=
  ⟨h.wo hp hc, fun a q1 q2 => by
    by_cases ha : a = f
    · rw [ha, wo_same]
      exact hf.symm
    · rw [wo_ne ha]
      exact fr a q1 q2 ha⟩
end Sy

namespace Sy
open PySem PySem.Spec PyProof.Rows L2

/-! ### the order of words and of rows of words -/
def wk (a : PySem.Str) : List Nat := a.cps.toList
theorem wk_inj {a b : PySem.Str} (h : wk a = wk b) : a = b := PySem.W.str_of_cps h
def wle (a b : PySem.Str) : Bool := decide (wk a ≤ wk b)
def rle (a b : List PySem.Str) : Bool := decide (a.map wk ≤ b.map wk)
abbrev wS_ (l : List PySem.Str) : List SV := l.map SV.str
abbrev rS (r : List PySem.Str) : SV := .tup (r.map SV.str)
theorem rk_inj {a b : List PySem.Str} (h : a.map wk = b.map wk) : a = b := by
  induction a generalizing b with
  | nil => cases b with
    | nil => rfl
    | cons _ _ => cases h
  | cons x a ih => cases b with
    | nil => cases h
    | cons y b =>
      rw [List.map_cons, List.map_cons, List.cons.injEq] at h
      rw [wk_inj h.1, ih h.2]
theorem wle_total (a b : PySem.Str) : (wle a b || wle b a) = true := by
  unfold wle
  rcases List.le_total (wk a) (wk b) with h | h <;> simp [h]
theorem wle_trans (a b c : PySem.Str) (h1 : wle a b = true) (h2 : wle b c = true) : wle a c = true := by
  unfold wle at *
  exact decide_eq_true (List.le_trans (of_decide_eq_true h1) (of_decide_eq_true h2))
theorem wle_anti {a b : PySem.Str} (h1 : wle a b = true) (h2 : wle b a = true) : a = b := wk_inj (List.le_antisymm (of_decide_eq_true h1) (of_decide_eq_true h2))
theorem rle_total (a b : List PySem.Str) : (rle a b || rle b a) = true := by
  unfold rle
  rcases List.le_total (a.map wk) (b.map wk) with h | h <;> simp [h]
theorem rle_trans (a b c : List PySem.Str) (h1 : rle a b = true) (h2 : rle b c = true) : rle a c = true := by
  unfold rle at *
  exact decide_eq_true (List.le_trans (of_decide_eq_true h1) (of_decide_eq_true h2))
theorem rle_anti {a b : List PySem.Str} (h1 : rle a b = true) (h2 : rle b a = true) : a = b := rk_inj (List.le_antisymm (of_decide_eq_true h1) (of_decide_eq_true h2))
theorem not_lt_le (a b : List Nat) : (!decide (b < a)) = decide (a ≤ b) := by
  by_cases h : b < a
  · have : ¬ a ≤ b := fun z => (List.not_le.mpr h) z
    simp [h, this]
  · have : a ≤ b := List.not_lt.mp h
    simp [h, this]
theorem not_lt_le2 (a b : List (List Nat)) : (!decide (b < a)) = decide (a ≤ b) := by
  by_cases h : b < a
  · have : ¬ a ≤ b := fun z => (List.not_le.mpr h) z
    simp [h, this]
  · have : a ≤ b := List.not_lt.mp h
    simp [h, this]

theorem toDs_words : ∀ l : List PySem.Str, toDs (wS_ l) = some (l.map PyData.str)
  | [] => rfl
  | a :: l => by
    show (toD (.str a)).bind (fun d => (toDs (wS_ l)).map fun r => d :: r) = _
    rw [toDs_words l]
    rfl
theorem toD_row (r : List PySem.Str) : toD (rS r) = some (.tuple (r.map PyData.str)) := by
  show (toDs (wS_ r)).map PyData.tuple = _
  rw [toDs_words]
  rfl
theorem toDs_rows : ∀ l : List (List PySem.Str), toDs (l.map rS) = some (l.map fun r => PyData.tuple (r.map PyData.str))
  | [] => rfl
  | a :: l => by
    show (toD (rS a)).bind (fun d => (toDs (l.map rS)).map fun r => d :: r) = _
    rw [toDs_rows l, toD_row]
    rfl
theorem alike_words : ∀ a b : List PySem.Str, PySem.W.alikeAll (a.map PyData.str) (b.map PyData.str) = true
  | [], _ => by simp [PySem.W.alikeAll]
  | _ :: _, [] => by simp [PySem.W.alikeAll]
  | x :: a, y :: b => by
    show PySem.W.alikeAll (.str x :: a.map PyData.str) (.str y :: b.map PyData.str) = true
    rw [PySem.W.alikeAll, alike_words a b]
    simp [PySem.W.alike]
theorem lex_words : ∀ a b : List PySem.Str, PyProof.Rows.lexLt itemOrd (PySem.W.keyToksAll (a.map PyData.str)) (PySem.W.keyToksAll (b.map PyData.str)) = decide (a.map wk < b.map wk)
  | [], [] => by decide +kernel
  | [], y :: b => by
    show PyProof.Rows.lexLt itemOrd (PySem.W.keyToksAll []) (PySem.W.keyToksAll (.str y :: b.map PyData.str)) = _
    rw [PySem.W.keyToksAll, PySem.W.keyToksAll, lex_diff (O := itemOrd) (by simp)]
    have h : ([] : List (List Nat)) < wk y :: b.map wk := List.nil_lt_cons _ _
    simp only [List.map_nil, List.map_cons, h, decide_true]
    decide +kernel
  | x :: a, [] => by
    show PyProof.Rows.lexLt itemOrd (PySem.W.keyToksAll (.str x :: a.map PyData.str)) (PySem.W.keyToksAll []) = _
    rw [PySem.W.keyToksAll, PySem.W.keyToksAll, lex_diff (O := itemOrd) (by simp)]
    have h : ¬ (wk x :: a.map wk) < ([] : List (List Nat)) := List.not_lt_nil _
    simp only [List.map_nil, List.map_cons, h, decide_false]
    decide +kernel
  | x :: a, y :: b => by
    show PyProof.Rows.lexLt itemOrd (PySem.W.keyToksAll (.str x :: a.map PyData.str)) (PySem.W.keyToksAll (.str y :: b.map PyData.str)) = decide (wk x :: a.map wk < wk y :: b.map wk)
    rw [PySem.W.dataLt_cons (by simp [PySem.W.alike]), eqv_str, lex_words a b, PySem.W.dataLt_str]
    by_cases h : x = y
    · subst h
      simp [List.cons_lt_cons_iff, List.lt_irrefl]
    · have h' : ¬ wk x = wk y := fun e => h (wk_inj e)
      simp [List.cons_lt_cons_iff, h, h']
      rfl
theorem srt_words (l : List PySem.Str) : srtL (wS_ l) = wS_ (l.mergeSort wle) := by
  unfold srtL
  refine (List.map_mergeSort fun a _ b _ => ?_).symm
  rw [PySem.W.dataLe_eq]
  show wle a b = !PySem.W.dataLt (.str b) (.str a)
  rw [PySem.W.dataLt_str]
  exact (not_lt_le _ _).symm
theorem depth_words : ∀ r : List PySem.Str, PyData.depthAll (r.map PyData.str) = 0
  | [] => by simp [PyData.depthAll]
  | x :: r => by
    show PyData.depthAll (.str x :: r.map PyData.str) = 0
    rw [PyData.depthAll, depth_words r]
    simp [PyData.depth]
theorem lay_words : ∀ r : List PySem.Str, (∀ x ∈ r, PyData.strOk x = true) → PyData.canLayAll0 (r.map PyData.str) = true
  | [], _ => by simp [PyData.canLayAll0]
  | x :: r, h => by
    show PyData.canLayAll0 (.str x :: r.map PyData.str) = true
    rw [PyData.canLayAll0, lay_words r fun y hy => h y (List.mem_cons_of_mem _ hy)]
    simp [PyData.canLay0, h x List.mem_cons_self]
theorem dic_seq {S : Sto} {y : SV} {l : List SV} (h : seqOf S y = some l) : dicS S y = none := by
  cases y <;> first | rfl | (cases h; done) | skip
  rename_i a
  have h' : (match S a with | some (.lst l) => some l | some (.fz _ l) => some l | _ => none) = some l := h
  unfold dicS
  simp only
  split at h'
  · rename_i l' e
    rw [e]
  · rename_i l' o' e
    rw [e]
  · cases h'
theorem src_seq {S : Sto} {y : SV} {l : List SV} (h : seqOf S y = some l) : srcOf S y = some l := by
  unfold srcOf
  rw [dic_seq h]
  exact h
section
variable {S : Sto} {x : SV} {l : List SV} {ds : List PyData} {own : Bool} {k : SK}
theorem sorted_src (h1 : srcOf S x = some l) (h2 : toDs l = some ds) (h3 : PySem.W.AllAlike ds) (h4 : PySem.W.Sortable ds) (h5 : ∀ d ∈ ds, d.depth ≤ 8) : sortedS own x S k = newL own (srtL l) S k := by
  refine propext ⟨?_, fun h => ⟨l, ds, h1, h2, h3, .inl h4, h5, h⟩⟩
  rintro ⟨l', _, e, _, _, _, _, h⟩
  rw [h1] at e
  cases e
  exact h
theorem sorted_srcO (h1 : srcOf S x = some l) (h2 : toDs l = some ds) (h3 : PySem.W.AllAlike ds) (h4 : SrtOk ds) (h5 : ∀ d ∈ ds, d.depth ≤ 8) : sortedS own x S k = newL own (srtL l) S k := by
  refine propext ⟨?_, fun h => ⟨l, ds, h1, h2, h3, h4, h5, h⟩⟩
  rintro ⟨l', _, e, _, _, _, _, h⟩
  rw [h1] at e
  cases e
  exact h
theorem sorted_words' {ws : List PySem.Str} (h1 : srcOf S x = some (wS_ ws)) : sortedS own x S k = newL own (wS_ (ws.mergeSort wle)) S k := by
  rw [sorted_src h1 (toDs_words ws) ?_ (.inr ?_) ?_, srt_words]
  · intro d hd d' hd'
    obtain ⟨a, _, rfl⟩ := List.mem_map.mp hd
    obtain ⟨b, _, rfl⟩ := List.mem_map.mp hd'
    simp [PySem.W.alike]
  · intro d hd
    obtain ⟨a, _, rfl⟩ := List.mem_map.mp hd
    exact ⟨fun e => (by cases e), fun xs e => (by cases e)⟩
  · intro d hd
    obtain ⟨a, _, rfl⟩ := List.mem_map.mp hd
    simp [PyData.depth]
theorem sorted_words {ws : List PySem.Str} (h1 : seqOf S x = some (wS_ ws)) : sortedS own x S k = newL own (wS_ (ws.mergeSort wle)) S k := sorted_words' (src_seq h1)
/-! ### == and in, of words and of rows -/
theorem shaped_str {a : PySem.Str} (h : PyData.strOk a = true) : SeqAt.shaped (.str a) = true := by
  simp [SeqAt.shaped, PyData.canLay0, PyData.depth, h]
theorem shaped_words {ws : List PySem.Str} (h : ∀ x ∈ ws, PyData.strOk x = true) : SeqAt.shaped (.list (ws.map PyData.str)) = true := by
  simp [SeqAt.shaped, PyData.canLay0, PyData.depth, lay_words ws h, depth_words]
theorem shaped_row {ws : List PySem.Str} (h : ∀ x ∈ ws, PyData.strOk x = true) : SeqAt.shaped (.tuple (ws.map PyData.str)) = true := by
  simp [SeqAt.shaped, PyData.canLay0, PyData.depth, lay_words ws h, depth_words]
theorem lay_rows : ∀ rs : List (List PySem.Str), (∀ r ∈ rs, ∀ x ∈ r, PyData.strOk x = true) → PyData.canLayAll0 (rs.map fun r => PyData.tuple (r.map PyData.str)) = true ∧ PyData.depthAll (rs.map fun r => PyData.tuple (r.map PyData.str)) ≤ 1
  | [], _ => by simp [PyData.canLayAll0, PyData.depthAll]
  | r :: rs, h => by
    obtain ⟨h1, h2⟩ := lay_rows rs fun q hq => h q (List.mem_cons_of_mem _ hq)
    show PyData.canLayAll0 (.tuple (r.map PyData.str) :: _) = true ∧ PyData.depthAll (.tuple (r.map PyData.str) :: _) ≤ 1
    rw [PyData.canLayAll0, PyData.depthAll, h1]
    simp [PyData.canLay0, PyData.depth, lay_words r (h r List.mem_cons_self), depth_words]
    omega
theorem shaped_rows {rs : List (List PySem.Str)} (h : ∀ r ∈ rs, ∀ x ∈ r, PyData.strOk x = true) : SeqAt.shaped (.list (rs.map fun r => PyData.tuple (r.map PyData.str))) = true := by
  obtain ⟨h1, h2⟩ := lay_rows rs h
  simp [SeqAt.shaped, PyData.canLay0, PyData.depth, h1]
  omega
theorem eqvAll_words : ∀ a b : List PySem.Str, PyData.eqvAll (a.map PyData.str) (b.map PyData.str) = decide (a = b)
  | [], [] => by simp [PyData.eqvAll]
  | [], _ :: _ => by simp [PyData.eqvAll]
  | _ :: _, [] => by simp [PyData.eqvAll]
  | x :: a, y :: b => by
    show PyData.eqvAll (.str x :: a.map PyData.str) (.str y :: b.map PyData.str) = _
    rw [PyData.eqvAll, eqv_str, eqvAll_words a b]
    by_cases h : x = y <;> by_cases g : a = b <;> simp [h, g]
theorem any_words (a : PySem.Str) : ∀ ws : List PySem.Str, ((ws.map PyData.str).any fun z => PyData.eqv z (.str a)) = decide (a ∈ ws)
  | [] => by simp
  | x :: ws => by
    rw [List.map_cons, List.any_cons, any_words a ws, eqv_str]
    by_cases h : x = a
    · simp [h]
    · have h' : ¬ a = x := fun e => h e.symm
      simp [h, h']
theorem any_rows (a : List PySem.Str) : ∀ rs : List (List PySem.Str), ((rs.map fun r => PyData.tuple (r.map PyData.str)).any fun z => PyData.eqv z (.tuple (a.map PyData.str))) = decide (a ∈ rs)
  | [] => by simp
  | x :: rs => by
    rw [List.map_cons, List.any_cons, any_rows a rs, PyData.eqv, eqvAll_words]
    by_cases h : x = a
    · simp [h]
    · have h' : ¬ a = x := fun e => h e.symm
      simp [h, h']
theorem in_of {q : Bool → Prop} {d : PyData} (h1 : toD x = some d) (h2 : toDs l = some ds) (s1 : SeqAt.shaped d = true) (s2 : SeqAt.shaped (.list ds) = true) : inS x l q = q (ds.any fun z => PyData.eqv z d) := by
  refine propext ⟨?_, fun h => ⟨d, ds, h1, h2, s1, s2, h⟩⟩
  rintro ⟨d', ds', e1, e2, _, _, h⟩
  rw [h1] at e1
  rw [h2] at e2
  cases e1
  cases e2
  exact h
theorem in_words {q : Bool → Prop} {a : PySem.Str} {ws : List PySem.Str} (ha : PyData.strOk a = true) (h : ∀ x ∈ ws, PyData.strOk x = true) : inS (.str a) (wS_ ws) q = q (decide (a ∈ ws)) := by
  rw [in_of (d := .str a) rfl (toDs_words ws) (shaped_str ha) (shaped_words h), any_words]
theorem in_rows {q : Bool → Prop} {a : List PySem.Str} {rs : List (List PySem.Str)} (ha : ∀ x ∈ a, PyData.strOk x = true) (h : ∀ r ∈ rs, ∀ x ∈ r, PyData.strOk x = true) : inS (rS a) (rs.map rS) q = q (decide (a ∈ rs)) := by
  rw [in_of (toD_row a) (toDs_rows rs) (shaped_row ha) (shaped_rows h), any_rows]
theorem toDs_ints : ∀ l : List Int, toDs (l.map SV.int) = some (l.map PyData.int)
  | [] => rfl
  | a :: l => by
    show (toD (.int a)).bind (fun d => (toDs (l.map SV.int)).map fun r => d :: r) = _
    rw [toDs_ints l]
    rfl
theorem lay_ints : ∀ l : List Int, PyData.canLayAll0 (l.map PyData.int) = true ∧ PyData.depthAll (l.map PyData.int) = 0
  | [] => by simp [PyData.canLayAll0, PyData.depthAll]
  | a :: l => by
    obtain ⟨h1, h2⟩ := lay_ints l
    show PyData.canLayAll0 (.int a :: l.map PyData.int) = true ∧ PyData.depthAll (.int a :: l.map PyData.int) = 0
    rw [PyData.canLayAll0, PyData.depthAll, h1, h2]
    simp [PyData.canLay0, PyData.depth]
theorem any_ints (a : Int) : ∀ ws : List Int, ((ws.map PyData.int).any fun z => PyData.eqv z (.int a)) = decide (a ∈ ws)
  | [] => by simp
  | x :: ws => by
    rw [List.map_cons, List.any_cons, any_ints a ws, eqv_int]
    by_cases h : x = a
    · simp [h]
    · have h' : ¬ a = x := fun e => h e.symm
      simp [h, h']
theorem in_ints {q : Bool → Prop} {a : Int} {ws : List Int} : inS (.int a) (ws.map SV.int) q = q (decide (a ∈ ws)) := by
  rw [in_of (d := .int a) rfl (toDs_ints ws) (by simp [SeqAt.shaped, PyData.canLay0, PyData.depth]) (by simp [SeqAt.shaped, PyData.canLay0, PyData.depth, (lay_ints ws).1, (lay_ints ws).2]), any_ints]
theorem inK_of {neg : Bool} {y : SV} {l : List SV} (hs : ∀ s, y ≠ .str s) (h : seqOf S y = some l) : inK neg x y S k = inS x l fun b => k (.bl (xor neg b)) S := by
  unfold inK
  split
  · exact absurd rfl (hs _)
  · simp only [dic_seq h, h, Option.some.injEq, exists_eq_left']
theorem inK_tuf {neg : Bool} {l : List SV} : inK neg x (.tuf l) S k = inS x l fun b => k (.bl (xor neg b)) S := inK_of (fun _ e => by cases e) rfl
theorem inK_lst {neg : Bool} {l : List SV} : inK neg x (.lst l) S k = inS x l fun b => k (.bl (xor neg b)) S := inK_of (fun _ e => by cases e) rfl
theorem inK_tup {neg : Bool} {l : List SV} : inK neg x (.tup l) S k = inS x l fun b => k (.bl (xor neg b)) S := inK_of (fun _ e => by cases e) rfl
end
end Sy

namespace Sy
open PySem PySem.Spec PyProof.Rows L2
local macro_rules | `(tactic| simp! only [$ls,*]) => `(tactic| try simp only [callX_fold, mnA, mxA, strS, wB, wS, wT, wE, wA, wO, wC, tgS, binS, cmpS, biS, r1, r2, mtS, augS, cstS, splitS, opI_int, add_int, add_str, add_tup, add_ll, newL_f, newL_t, mul_int, ord_int, ord_str, int_int, int_bl, mn_int, mx_int, mn_str, mx_str, tuple_tup, tuple_tuf, tuple_lst, tuple_lstT, sl_lst, sl_tup, sl_scr, sl_str, it_lst, it_str, it_tup, it_tuf, it_enU, it_zU, it_rng1, it_rng2, it_enL, it_enT, it_zL, it_zT, List.set_cons_zero, List.set_cons_succ, List.getElem?_cons_zero, List.getElem?_cons_succ, some_ex, some_ex2, bl_ex, int_ex, eqS_int, idx_lst, idx_tup, idx_tuf, idx_str, len_lst, len_tup, len_tuf, len_scr, at_0, at_1, at_2, true_and, and_true, Int.fmod_eq_emod_of_nonneg, Int.fdiv_eq_ediv_of_nonneg, ne_eq, reduceCtorEq, not_false_eq_true, if_true, if_false, Bool.false_eq_true, decide_eq_true_eq, Int.reduceEq, Int.reduceLE, Int.reduceLT, $ls,*])
section
variable {Pr : PySem.Str → Option Def} {g : PySem.Str → Option SV}
theorem cut_map {α β : Type} (f : α → β) (l : List α) (lo hi : Option Int) : cutL (l.map f) lo hi = (cutL l lo hi).map f := by
  unfold cutL
  rw [List.length_map, List.map_take, List.map_drop]
theorem cut_len {α : Type} (l : List α) (lo hi : Option Int) : (cutL l lo hi).length ≤ l.length := by
  unfold cutL
  rw [List.length_take, List.length_drop]
  omega
end
end Sy

namespace Sy
open PySem PySem.Spec PyProof.Rows L2
/-! ### words -/
def lowS (a : PySem.Str) : Prop := ∀ ch ∈ wk a, 97 ≤ ch ∧ ch ≤ 122
theorem low_ok {a : PySem.Str} (h : lowS a) : PyData.strOk a = true := by
  unfold PyData.strOk
  rw [Array.all_eq_true_iff_forall_mem]
  intro ch hc
  have := h ch (by unfold wk; exact Array.mem_toList_iff.mpr hc)
  exact decide_eq_true (by omega)
theorem wk_app (a b : PySem.Str) : wk (a ++ b) = wk a ++ wk b := by
  show (a ++ b).cps.toList = _
  rw [Str.cps_append, Array.toList_append]
  rfl
theorem wk_len (a : PySem.Str) : (wk a).length = a.length := rfl
theorem len_app (a b : PySem.Str) : (a ++ b).length = a.length + b.length := by
  rw [← wk_len, ← wk_len, ← wk_len, wk_app, List.length_append]
theorem wk_cut (a : PySem.Str) (lo hi : Option Int) : wk (cutS a lo hi) = cutL (wk a) lo hi := rfl
theorem wk_one (ch : Nat) : wk ⟨#[ch]⟩ = [ch] := rfl
abbrev abc : PySem.Str := "abcdefghijklmnopqrstuvwxyz"
theorem wk_abc : wk abc = (List.range 26).map fun i => 97 + i := by decide +kernel
theorem at_abc {i : Int} (h : 0 ≤ i) (h2 : i < 26) : atI (wk abc) i = some (97 + i.toNat) := by
  have e : i = ((i.toNat : Nat) : Int) := by omega
  have hi : i.toNat < 26 := by omega
  rw [e]
  refine atI_nat ?_
  rw [wk_abc, List.getElem?_map, List.getElem?_range (by omega)]
  simp
  omega
abbrev ownW1 : List PySem.Str := ["web", "put", "take", "tie", "untie", "show", "first", "next", "all", "count", "sizes", "biggest"]
abbrev ownW2 : List PySem.Str := ["fill", "tied", "apart", "cover"]
def ownW : List PySem.Str := ownW1 ++ ownW2
/-- a word that may name something -/
structure WOk (a : PySem.Str) : Prop where
  low : lowS a
  l1 : 1 ≤ a.length
  l8 : a.length ≤ 8
  no : a ∉ ownW
theorem own_low : ∀ a ∈ ownW, lowS a ∧ 2 ≤ a.length ∧ a.length ≤ 8 := by
  intro a ha
  have h : (ownW.all fun a => decide (2 ≤ a.length) && decide (a.length ≤ 8) && (wk a).all fun ch => decide (97 ≤ ch) && decide (ch ≤ 122)) = true := by decide +kernel
  have q := List.all_eq_true.mp h a ha
  simp only [Bool.and_eq_true, decide_eq_true_eq, List.all_eq_true] at q
  exact ⟨q.2, q.1.1, q.1.2⟩
end Sy

namespace Sy
open PySem PySem.Spec PyProof.Rows L2
local macro_rules | `(tactic| simp! only [$ls,*]) => `(tactic| try simp only [callX_fold, mnA, mxA, strS, wB, wS, wT, wE, wA, wO, wC, tgS, binS, cmpS, biS, r1, r2, mtS, augS, cstS, splitS, opI_int, add_int, add_str, add_tup, add_ll, newL_f, newL_t, mul_int, ord_int, ord_str, int_int, int_bl, mn_int, mx_int, mn_str, mx_str, tuple_tup, tuple_tuf, tuple_lst, tuple_lstT, sl_lst, sl_tup, sl_scr, sl_str, it_lst, it_str, it_tup, it_tuf, it_enU, it_zU, it_rng1, it_rng2, it_enL, it_enT, it_zL, it_zT, List.set_cons_zero, List.set_cons_succ, List.getElem?_cons_zero, List.getElem?_cons_succ, some_ex, some_ex2, bl_ex, int_ex, eqS_int, idx_lst, idx_tup, idx_tuf, idx_str, len_lst, len_tup, len_tuf, len_scr, at_0, at_1, at_2, true_and, and_true, Int.fmod_eq_emod_of_nonneg, Int.fdiv_eq_ediv_of_nonneg, ne_eq, reduceCtorEq, not_false_eq_true, if_true, if_false, Bool.false_eq_true, decide_eq_true_eq, Int.reduceEq, Int.reduceLE, Int.reduceLT, $ls,*])
section
variable {Pr : PySem.Str → Option Def} {g : PySem.Str → Option SV}
theorem Dk.at {p c : Addr} {S S' : Sto} (h : Dk p c S S') : DkAt p c S' := h.1
end
end Sy

namespace Sy
open PySem PySem.Spec PyProof.Rows L2
local macro_rules | `(tactic| simp! only [$ls,*]) => `(tactic| try simp only [callX_fold, mnA, mxA, strS, wB, wS, wT, wE, wA, wO, wC, tgS, binS, cmpS, biS, r1, r2, mtS, augS, cstS, splitS, opI_int, add_int, add_str, add_tup, add_ll, newL_f, newL_t, mul_int, ord_int, ord_str, int_int, int_bl, mn_int, mx_int, mn_str, mx_str, tuple_tup, tuple_tuf, tuple_lst, tuple_lstT, sl_lst, sl_tup, sl_scr, sl_str, it_lst, it_str, it_tup, it_tuf, it_enU, it_zU, it_rng1, it_rng2, it_enL, it_enT, it_zL, it_zT, List.set_cons_zero, List.set_cons_succ, List.getElem?_cons_zero, List.getElem?_cons_succ, some_ex, some_ex2, bl_ex, int_ex, eqS_int, idx_lst, idx_tup, idx_tuf, idx_str, len_lst, len_tup, len_tuf, len_scr, at_0, at_1, at_2, true_and, and_true, Int.fmod_eq_emod_of_nonneg, Int.fdiv_eq_ediv_of_nonneg, ne_eq, reduceCtorEq, not_false_eq_true, if_true, if_false, Bool.false_eq_true, decide_eq_true_eq, Int.reduceEq, Int.reduceLE, Int.reduceLT, $ls,*])
/-! ### pairs -/
def pairsL : List PySem.Str → List (List PySem.Str)
  | [] => []
  | a :: r => r.map (fun b => [a, b]) ++ pairsL r
theorem pairs_mem : ∀ {L : List PySem.Str} {i j : Nat} {a b : PySem.Str}, i < j → L[i]? = some a → L[j]? = some b → [a, b] ∈ pairsL L
  | [], i, j, a, b, _, h, _ => by simp at h
  | x :: L, 0, j + 1, a, b, _, h, g => by
    have e : x = a := by simpa using h
    subst e
    exact List.mem_append_left _ (List.mem_map.mpr ⟨b, List.mem_of_getElem? (by simpa using g), rfl⟩)
  | x :: L, i + 1, j + 1, a, b, hij, h, g => List.mem_append_right _ (pairs_mem (i := i) (j := j) (by omega) (by simpa using h) (by simpa using g))
theorem pairs_of_mem : ∀ {L : List PySem.Str} {r : List PySem.Str}, r ∈ pairsL L → ∃ a b, r = [a, b] ∧ a ∈ L ∧ b ∈ L
  | [], r, h => by cases h
  | x :: L, r, h => by
    rcases List.mem_append.mp h with z | z
    · obtain ⟨b, hb, rfl⟩ := List.mem_map.mp z
      exact ⟨x, b, rfl, List.mem_cons_self, List.mem_cons_of_mem _ hb⟩
    · obtain ⟨a, b, e, h1, h2⟩ := pairs_of_mem z
      exact ⟨a, b, e, List.mem_cons_of_mem _ h1, List.mem_cons_of_mem _ h2⟩
theorem wle_refl (a : PySem.Str) : wle a a = true := decide_eq_true (List.le_refl _)
theorem rle_pair {a b c d : PySem.Str} (h : a = c → wle b d = true) (h2 : wle a c = true) : rle [a, b] [c, d] = true := by
  unfold rle
  refine decide_eq_true ?_
  show ¬ ([wk c, wk d] : List (List Nat)) < [wk a, wk b]
  rw [List.cons_lt_cons_iff, List.cons_lt_cons_iff]
  have h2' : wk a ≤ wk c := of_decide_eq_true h2
  rintro (q | ⟨e, q | ⟨_, q⟩⟩)
  · exact (List.not_lt.mpr h2') q
  · have e' : a = c := (wk_inj e).symm
    have := of_decide_eq_true (h e')
    exact (List.not_lt.mpr this) q
  · exact List.not_lt_nil _ q
theorem pairs_srt : ∀ {L : List PySem.Str}, L.Pairwise (fun a b => wle a b = true) → L.Nodup → (pairsL L).Pairwise fun a b => rle a b = true
  | [], _, _ => List.Pairwise.nil
  | x :: L, h, hn => by
    obtain ⟨h1, h2⟩ := List.pairwise_cons.mp h
    obtain ⟨n1, n2⟩ := List.nodup_cons.mp hn
    refine List.pairwise_append.mpr ⟨?_, pairs_srt h2 n2, fun r hr q hq => ?_⟩
    · exact List.pairwise_map.mpr (h2.imp fun {a b} hab => rle_pair (fun _ => hab) (wle_refl x))
    · obtain ⟨b, hb, rfl⟩ := List.mem_map.mp hr
      obtain ⟨c, d, rfl, hc, hd⟩ := pairs_of_mem hq
      refine rle_pair (fun e => ?_) (h1 c hc)
      rw [e] at n1
      exact absurd hc n1
theorem pairs_nodup : ∀ {L : List PySem.Str}, L.Nodup → (pairsL L).Nodup
  | [], _ => List.nodup_nil
  | x :: L, hn => by
    obtain ⟨n1, n2⟩ := List.nodup_cons.mp hn
    refine List.pairwise_append.mpr ⟨?_, pairs_nodup n2, fun r hr q hq => ?_⟩
    · exact List.pairwise_map.mpr (n2.imp fun {a b} hab => fun e => hab (by simpa using e))
    · obtain ⟨b, hb, rfl⟩ := List.mem_map.mp hr
      obtain ⟨c, d, rfl, hc, hd⟩ := pairs_of_mem hq
      intro e
      have : x = c := by simpa using (List.cons.inj e).1
      rw [this] at n1
      exact n1 hc
theorem pairs_len : ∀ L : List PySem.Str, 2 * (pairsL L).length = L.length * (L.length - 1)
  | [] => rfl
  | x :: L => by
    have ih := pairs_len L
    show 2 * (L.map (fun b => [x, b]) ++ pairsL L).length = (L.length + 1) * (L.length + 1 - 1)
    rw [List.length_append, List.length_map, Nat.mul_add, ih]
    cases L with
    | nil => rfl
    | cons y L =>
      show 2 * (L.length + 1) + (L.length + 1) * L.length = (L.length + 2) * (L.length + 1)
      rw [Nat.add_mul L.length 2, Nat.mul_comm (L.length + 1) L.length]
      omega
theorem nodup_ix {α : Type} : ∀ {L : List α} {i j : Nat} {a : α}, L.Nodup → L[i]? = some a → L[j]? = some a → i = j
  | [], i, j, a, _, h, _ => by simp at h
  | x :: L, 0, 0, a, _, _, _ => rfl
  | x :: L, 0, j + 1, a, h, h1, h2 => by
    have e : x = a := by simpa using h1
    subst e
    exact absurd (List.mem_of_getElem? (by simpa using h2)) (List.nodup_cons.mp h).1
  | x :: L, i + 1, 0, a, h, h1, h2 => by
    have e : x = a := by simpa using h2
    subst e
    exact absurd (List.mem_of_getElem? (by simpa using h1)) (List.nodup_cons.mp h).1
  | x :: L, i + 1, j + 1, a, h, h1, h2 => by
    rw [nodup_ix (i := i) (j := j) (List.nodup_cons.mp h).2 (by simpa using h1) (by simpa using h2)]
/-- a web -/
structure WebOk (L : List PySem.Str) (T : List (List PySem.Str)) (n : Nat) : Prop where
  nd : L.Nodup
  srt : L.Pairwise fun a b => wle a b = true
  ok : ∀ a ∈ L, WOk a
  len : L.length ≤ n
  sub : ∀ r ∈ T, r ∈ pairsL L
  tnd : T.Nodup
  tsrt : T.Pairwise fun a b => rle a b = true
abbrev webS (L : List PySem.Str) (T : List (List PySem.Str)) : SV := .tup [.tuf (wS_ L), .tuf (T.map rS)]
section
variable {Pr : PySem.Str → Option Def} {g : PySem.Str → Option SV}
end
end Sy

namespace Sy
def d_pairs_of : Def := ⟨["names"], ["names", "found", "place", "name", "other"],
 (.cons (.asg (.one 1 "found") (.lst true .nil))
 (.cons (.for_ (.many [(2, "place"), (3, "name")]) .enum (.cons (.var 0 "names") .nil) (.cons (.ex (.mt .extend false (.var 1 "found") (.cons (.lc false [("other", 4)] (.tup (.cons (.var 3 "name") (.cons (.var 4 "other") .nil))) (.one 4 "other") .seq (.cons (.sl false (.var 0 "names") (.some (.bin .Add false (.var 2 "place") (.cst (.int 1)))) .none) .nil) .none) .nil)))
 .nil))
 (.cons (.frz 1)
 (.cons (.ret (.var 1 "found"))
 .nil))))⟩

def d_turned_over : Def := ⟨["web"], ["web", "names", "ties", "pair"],
 (.cons (.asg (.many [(1, "names"), (2, "ties")]) (.var 0 "web"))
 (.cons (.ret (.tup (.cons (.var 1 "names") (.cons (.bi .tuple false (.cons (.lc false [("pair", 3)] (.var 3 "pair") (.one 3 "pair") .seq (.cons (.call "pairs_of" (.cons (.var 1 "names") .nil)) .nil) (.some (.cmp .NotIn (.var 3 "pair") (.var 2 "ties")))) .nil)) .nil))))
 .nil))⟩

end Sy

namespace Sy
open PySem PySem.Spec PyProof.Rows L2
local macro_rules | `(tactic| simp! only [$ls,*]) => `(tactic| try simp only [callX_fold, mnA, mxA, strS, wB, wS, wT, wE, wA, wO, wC, tgS, binS, cmpS, biS, r1, r2, mtS, augS, cstS, splitS, opI_int, add_int, add_str, add_tup, add_ll, newL_f, newL_t, mul_int, ord_int, ord_str, int_int, int_bl, mn_int, mx_int, mn_str, mx_str, tuple_tup, tuple_tuf, tuple_lst, tuple_lstT, sl_lst, sl_tup, sl_scr, sl_str, it_lst, it_str, it_tup, it_tuf, it_enU, it_zU, it_rng1, it_rng2, it_enL, it_enT, it_zL, it_zT, List.set_cons_zero, List.set_cons_succ, List.getElem?_cons_zero, List.getElem?_cons_succ, some_ex, some_ex2, bl_ex, int_ex, eqS_int, idx_lst, idx_tup, idx_tuf, idx_str, len_lst, len_tup, len_tuf, len_scr, at_0, at_1, at_2, true_and, and_true, Int.fmod_eq_emod_of_nonneg, Int.fdiv_eq_ediv_of_nonneg, ne_eq, reduceCtorEq, not_false_eq_true, if_true, if_false, Bool.false_eq_true, decide_eq_true_eq, Int.reduceEq, Int.reduceLE, Int.reduceLT, $ls,*])
/-! ### pairs_of, turned_over, _law_same -/
theorem enum_at : ∀ {l : List SV} {n i : Nat} {x : SV}, (enumL l n)[i]? = some x → ∃ y, l[i]? = some y ∧ x = .tup [.int ((n + i : Nat) : Int), y]
  | [], n, i, x, h => by simp [enumL] at h
  | y :: l, n, 0, x, h => by
    have e : x = .tup [.int (n : Int), y] := by simpa [enumL] using h.symm
    exact ⟨y, rfl, e⟩
  | y :: l, n, i + 1, x, h => by
    obtain ⟨z, h1, h2⟩ := enum_at (l := l) (n := n + 1) (i := i) (by simpa [enumL] using h)
    exact ⟨z, by simpa using h1, by rw [h2, show n + 1 + i = n + (i + 1) by omega]⟩
theorem enum_ln : ∀ (l : List SV) (n : Nat), (enumL l n).length = l.length
  | [], n => rfl
  | y :: l, n => by
    show (enumL l (n + 1)).length + 1 = l.length + 1
    rw [enum_ln l]
theorem cut_from {α : Type} (l : List α) (i : Nat) : cutL l (some ((i : Int) + 1)) none = l.drop (i + 1) := by
  unfold cutL
  have e : HT.sIx l.length 0 (some ((i : Int) + 1)) = min (i + 1) l.length := HT.sIx_nat _ _ (i + 1)
  rw [e]
  have e2 : HT.sIx l.length l.length none = l.length := rfl
  rw [e2]
  rcases Nat.lt_or_ge (i + 1) l.length with h | h
  · rw [Nat.min_eq_left (by omega)]
    exact List.take_of_length_le (by rw [List.length_drop]; omega)
  · rw [Nat.min_eq_right h, List.drop_eq_nil_of_le h, List.drop_length, List.take_nil]
theorem extend_own {S : Sto} {p : Addr} {l r : List SV} {k : SK} (h : S p = some (.lst l)) : extendS (.own p) (.lst r) S k = (l.length + r.length ≤ sizeLine ∧ k .non (supd S p (.lst (l ++ r)))) := by
  unfold extendS
  simp only [h, items_lst, Option.some.injEq, SO.lst.injEq, exists_and_left, exists_eq_left']
theorem wo_back {S S' : Sto} {f : Addr} (hf : S f = none) (fr : ∀ a, a ≠ f → S' a = S a) : wo S' f = S := by
  funext a
  by_cases h : a = f
  · rw [h, wo_same, hf]
  · rw [wo_ne h, fr a h]
section
variable {Pr : PySem.Str → Option Def} {g : PySem.Str → Option SV}
theorem pairs_ok (pp : Pr "pairs_of" = some d_pairs_of) {k : Nat} {S : Sto} {L : List PySem.Str} {Q : SK} (hL : L.length ≤ 100) (q : Q (.lst ((pairsL L).map rS)) S) : callS Pr g (k + 1) "pairs_of" [.tuf (wS_ L)] S Q := by
  have big : (20000 : Nat) ≤ sizeLine := by decide
  have hpl : (pairsL L).length ≤ 9900 := by
    have h4 := pairs_len L
    have h6 : L.length * (L.length - 1) ≤ 100 * 99 := Nat.mul_le_mul hL (by omega)
    omega
  refine ⟨d_pairs_of, pp, rfl, ?_⟩
  show wB _ _ d_pairs_of.body _ [some (.tuf (wS_ L)), none, none, none, none] S
  unfold d_pairs_of
  simp! only []
  refine ⟨by decide, fun f hf => for_inv (fun i ρ S' => ∃ (pre : List (List PySem.Str)) (v2 v3 : Option SV), ρ = [some (.tuf (wS_ L)), some (.own f), v2, v3, none] ∧ S' f = some (.lst (pre.map rS)) ∧ pre ++ pairsL (L.drop i) = pairsL L ∧ ∀ a, a ≠ f → S' a = S a)
    ⟨[], none, none, rfl, supd_same, rfl, fun a h => supd_ne h⟩ ?_ ?_⟩
  · rintro i x ρ S1 D hx ⟨pre, v2, v3, rfl, h1, h2, fr⟩ nx _ _ _
    obtain ⟨y, hy, rfl⟩ := enum_at hx
    rw [List.getElem?_map] at hy
    obtain ⟨a, ha, rfl⟩ := Option.map_eq_some_iff.mp hy
    refine ⟨_, _, .inl rfl, rfl, ?_⟩
    simp! only []
    rw [Nat.zero_add]
    have hne : cutL (wS_ L) (some ((i : Int) + 1)) none ≠ wS_ L := fun e => by
      have hi := (List.getElem?_eq_some_iff.mp ha).1
      have := congrArg List.length e
      rw [cut_from, List.length_drop, List.length_map] at this
      omega
    refine ⟨⟨_, items_own h1⟩, ?_⟩
    rw [sl_tuf]
    refine ⟨?_, fun e => absurd e hne⟩
    simp! only []
    rw [cut_from, ← List.map_drop]
    refine lc_pure (fun x => some (.tup [.str a, x])) (by rw [List.length_map, List.length_drop]; omega) (fun x _ k k' h _ => ?_) ?_
    · simp! only [wipeR, List.map_cons, List.map_nil]
      exact ⟨by show 2 ≤ sizeLine; omega, h _ rfl⟩
    have ef : ((L.drop (i + 1)).map SV.str).filterMap (fun x => some (SV.tup [.str a, x])) = ((L.drop (i + 1)).map fun b => [a, b]).map rS := by
      rw [List.filterMap_eq_map', List.map_map, List.map_map]
      rfl
    rw [ef, extend_own h1]
    have hd : L.drop i = a :: L.drop (i + 1) := by
      have hi := (List.getElem?_eq_some_iff.mp ha).1
      rw [List.drop_eq_getElem_cons hi]
      rw [(List.getElem?_eq_some_iff.mp ha).2]
    have e : pre ++ ((L.drop (i + 1)).map fun b => [a, b]) ++ pairsL (L.drop (i + 1)) = pairsL L := by
      rw [← h2, hd, List.append_assoc]
      rfl
    have hl := congrArg List.length e
    rw [List.length_append, List.length_append] at hl
    refine ⟨?_, ?_, nx _ _ ⟨pre ++ (L.drop (i + 1)).map fun b => [a, b], _, _, rfl, ?_, e, fun a h => by rw [supd_ne h]; exact fr a h⟩⟩
    · rw [List.length_map]
      omega
    · rw [List.length_map, List.length_map]
      omega
    · rw [supd_same, ← List.map_append]
  · rintro ρ S1 ⟨pre, v2, v3, rfl, h1, h2, fr⟩
    have e : pre = pairsL L := by
      rw [enum_ln, List.length_map, List.drop_length] at h2
      simpa [pairsL] using h2
    subst e
    refine ⟨f, wo S1 f, _, rfl, wo_sub, wo_frz h1, _, rfl, fin_same ?_⟩
    rw [wo_back hf fr]
    exact q
theorem all_pairs_ok {L : List PySem.Str} (h : ∀ a ∈ L, PyData.strOk a = true) : ∀ r ∈ pairsL L, ∀ x ∈ r, PyData.strOk x = true := fun r hr x hx => by
  obtain ⟨a, b, rfl, ha, hb⟩ := pairs_of_mem hr
  rcases List.mem_cons.mp hx with e | hx
  · rw [e]; exact h a ha
  · rw [List.mem_singleton.mp hx]; exact h b hb
theorem filterMap_rows (P : List PySem.Str → Bool) : ∀ l : List (List PySem.Str), (l.filter P).map rS = l.filterMap fun r => if P r = true then some (rS r) else none
  | [] => rfl
  | r :: l => by
    rw [List.filter_cons, List.filterMap_cons]
    cases h : P r with
    | true => simp [filterMap_rows P l]
    | false => simp [filterMap_rows P l]
/-- what is turned over of the ties T -/
abbrev turnL (L : List PySem.Str) (T : List (List PySem.Str)) : List (List PySem.Str) := (pairsL L).filter fun r => decide (r ∉ T)
theorem turned_ok (pp : Pr "pairs_of" = some d_pairs_of) (pu : Pr "turned_over" = some d_turned_over) {k : Nat} {S : Sto} {L : List PySem.Str} {T : List (List PySem.Str)} {Q : SK} (hL : L.length ≤ 100) (hk : ∀ a ∈ L, PyData.strOk a = true) (hT : ∀ r ∈ T, r ∈ pairsL L)
    (q : Q (webS L (turnL L T)) S) : callS Pr g (k + 2) "turned_over" [webS L T] S Q := by
  have big : (20000 : Nat) ≤ sizeLine := by decide
  have hpl : (pairsL L).length ≤ 9900 := by
    have h4 := pairs_len L
    have h6 : L.length * (L.length - 1) ≤ 100 * 99 := Nat.mul_le_mul hL (by omega)
    omega
  refine ⟨d_turned_over, pu, rfl, ?_⟩
  show wB _ _ d_turned_over.body _ [some (webS L T), none, none, none] S
  unfold d_turned_over
  simp! only []
  refine ⟨_, _, .inl rfl, rfl, ?_⟩
  simp! only []
  refine pairs_ok pp hL ?_
  simp! only []
  have ok := all_pairs_ok hk
  refine lc_on rS (fun r => if r ∉ T then some (rS r) else none) (by omega) (fun r hr k k' h1 h2 => ?_) ?_
  · simp! only [wipeR, List.map_cons, List.map_nil, inK_tuf, in_rows (ok r hr) (fun r hr => ok r (hT r hr)), Bool.true_xor]
    by_cases hm : r ∈ T
    · simp only [hm, decide_true, Bool.not_true, Bool.false_eq_true, if_false]
      exact h2 (by simp [hm])
    · simp only [hm, decide_false, Bool.not_false, if_true]
      exact h1 _ (by simp [hm])
  · have e : (pairsL L).filterMap (fun r => if r ∉ T then some (rS r) else none) = (turnL L T).map rS := by
      rw [filterMap_rows]
      simp only [decide_eq_true_eq]
    rw [e]
    simp! only [List.length_map]
    have : (turnL L T).length ≤ (pairsL L).length := List.length_filter_le (fun r => decide (r ∉ T)) (pairsL L)
    exact ⟨by omega, by show 2 ≤ sizeLine; omega, fin_same q⟩
/-! what _law_same says of one thing twice -/
inductive Fl : Nat → SV → Prop
  | str (n : Nat) {a : PySem.Str} (h : PyData.strOk a = true) : Fl (n + 1) (.str a)
  | int (n : Nat) (i : Int) : Fl (n + 1) (.int i)
  | tup (n : Nat) {l : List SV} (hl : l.length ≤ 20000) (h : ∀ x ∈ l, Fl n x) : Fl (n + 1) (.tup l)
  | tuf (n : Nat) {l : List SV} (hl : l.length ≤ 20000) (h : ∀ x ∈ l, Fl n x) : Fl (n + 1) (.tuf l)
end
end Sy

namespace Sy
def d_B_law_number : Def := ⟨["script", "k"], ["script", "k", "cells", "size", "cell", "turn", "rest", "step", "seed"],
 (.cons (.asg (.one 2 "cells") (.bin .Add false (.bi .list false (.cons (.var 0 "script") .nil)) (.lst false (.cons (.cst (.int 0)) .nil))))
 (.cons (.asg (.one 3 "size") (.bi .mx false (.cons (.cst (.int 1)) (.cons (.bi .len false (.cons (.var 0 "script") .nil)) .nil))))
 (.cons (.asg (.one 4 "cell") (.idx (.var 2 "cells") (.bin .Mod false (.var 1 "k") (.var 3 "size"))))
 (.cons (.asg (.one 5 "turn") (.bin .FloorDiv false (.var 1 "k") (.var 3 "size")))
 (.cons (.asg (.one 6 "rest") (.var 4 "cell"))
 (.cons (.for_ (.one 7 "step") .rng1 (.cons (.bi .mn false (.cons (.var 5 "turn") (.cons (.cst (.int 60)) .nil))) .nil) (.cons (.asg (.one 6 "rest") (.bin .FloorDiv false (.var 6 "rest") (.cst (.int 1000000))))
 .nil))
 (.cons (.ifs (.and (.cmp .GtE (.var 4 "cell") (.bin .Pow false (.cst (.int 10)) (.cst (.int 18)))) (.and (.cmp .Lt (.var 5 "turn") (.cst (.int 60))) (.cmp .Gt (.var 6 "rest") (.cst (.int 0))))) (.cons (.ret (.bin .Mod false (.var 6 "rest") (.cst (.int 1000000))))
 .nil) .nil)
 (.cons (.asg (.one 8 "seed") (.bin .Mod false (.bin .Mult false (.bin .Add false (.bin .Add false (.bin .Add false (.bin .Mod false (.var 4 "cell") (.cst (.int 2147483629))) (.cst (.int 977))) (.bin .Mult false (.cst (.int 104729)) (.var 5 "turn"))) (.bin .Mult false (.cst (.int 15485863)) (.var 1 "k"))) (.cst (.int 48271))) (.cst (.int 2147483647))))
 (.cons (.asg (.one 8 "seed") (.bin .Mod false (.bin .Add false (.bin .Add false (.bin .Mult false (.var 8 "seed") (.var 8 "seed")) (.bin .Mult false (.cst (.int 7919)) (.var 5 "turn"))) (.bin .Mult false (.cst (.int 31)) (.var 1 "k"))) (.cst (.int 2147483587))))
 (.cons (.ret (.bin .Mod false (.bin .FloorDiv false (.bin .Mod false (.bin .Mult false (.var 8 "seed") (.cst (.int 69621))) (.cst (.int 2147483563))) (.cst (.int 64))) (.cst (.int 1000000))))
 .nil))))))))))⟩

def d_B_law_names : Def := ⟨["script", "start", "many"], ["script", "start", "many", "letters", "some", "first", "at", "found", "menu", "k", "words", "name"],
 (.cons (.asg (.one 3 "letters") (.cst (.str "abcdefghijklmnopqrstuvwxyz")))
 (.cons (.asg (.one 4 "some") (.lst false (.cons (.cst (.str "")) (.cons (.cst (.str "")) (.cons (.cst (.str "one")) (.cons (.cst (.str "zz")) (.cons (.cst (.str "b")) (.cons (.cst (.str "ties")) (.cons (.cst (.str "place")) (.cons (.cst (.str "lengthy")) .nil))))))))))
 (.cons (.asg (.one 5 "first") (.call "_law_number" (.cons (.var 0 "script") (.cons (.var 1 "start") .nil))))
 (.cons (.asg (.one 6 "at") (.bin .Mod false (.bin .FloorDiv false (.var 5 "first") (.cst (.int 26))) (.cst (.int 8))))
 (.cons (.asg (.one 7 "found") (.lst true .nil))
 (.cons (.asg (.one 8 "menu") (.lst true (.cons (.cst (.str "p")) (.cons (.cst (.str "q")) (.cons (.cst (.str "pp")) (.cons (.cst (.str "pq")) (.cons (.cst (.str "qp")) (.cons (.cst (.str "qq")) (.cons (.cst (.str "ppq")) (.cons (.cst (.str "pqp")) (.cons (.cst (.str "qpp")) (.cons (.cst (.str "pqq")) (.cons (.cst (.str "qpq")) (.cons (.cst (.str "qqp")) (.cons (.cst (.str "qqqq")) (.cons (.cst (.str "pqpqpqp")) (.cons (.cst (.str "qpqpqpq")) .nil)))))))))))))))))
 (.cons (.ifs (.cmp .Eq (.bin .Mod false (.bin .FloorDiv false (.var 5 "first") (.cst (.int 416))) (.cst (.int 4))) (.cst (.int 3))) (.cons (.ret (.bi .tuple false (.cons (.bi .sorted false (.cons (.lc false [("k", 9)] (.mt .popAt false (.var 8 "menu") (.cons (.bin .Mod false (.call "_law_number" (.cons (.var 0 "script") (.cons (.bin .Add false (.bin .Add false (.var 1 "start") (.cst (.int 1))) (.var 9 "k")) .nil))) (.bi .len false (.cons (.var 8 "menu") .nil))) .nil)) (.one 9 "k") .rng1 (.cons (.var 2 "many") .nil) .none) .nil)) .nil)))
 .nil) .nil)
 (.cons (.frz 8)
 (.cons (.for_ (.one 9 "k") .rng1 (.cons (.var 2 "many") .nil) (.cons (.asg (.one 11 "name") (.idx (.var 4 "some") (.bin .Mod false (.call "_law_number" (.cons (.var 0 "script") (.cons (.bin .Add false (.bin .Add false (.var 1 "start") (.cst (.int 1))) (.bin .Mult false (.var 9 "k") (.bin .Mod false (.bin .FloorDiv false (.var 5 "first") (.cst (.int 208))) (.cst (.int 2))))) .nil))) (.cst (.int 8)))))
 (.cons (.ex (.mt .append false (.var 7 "found") (.cons (.bin .Add false (.bin .Add false (.sl false (.var 11 "name") .none (.some (.var 6 "at"))) (.idx (.var 3 "letters") (.bin .Mod false (.bin .Add false (.var 5 "first") (.bin .Mult false (.cst (.int 5)) (.var 9 "k"))) (.cst (.int 26))))) (.sl false (.var 11 "name") (.some (.var 6 "at")) .none)) .nil)))
 .nil)))
 (.cons (.frz 7)
 (.cons (.asg (.one 10 "words") (.lst false (.cons (.cst (.str "web")) (.cons (.cst (.str "put")) (.cons (.cst (.str "take")) (.cons (.cst (.str "tie")) (.cons (.cst (.str "untie")) (.cons (.cst (.str "show")) (.cons (.cst (.str "first")) (.cons (.cst (.str "next")) (.cons (.cst (.str "all")) (.cons (.cst (.str "count")) (.cons (.cst (.str "sizes")) (.cons (.cst (.str "biggest")) .nil))))))))))))))
 (.cons (.asg (.one 10 "words") (.bin .Add false (.var 10 "words") (.lst false (.cons (.cst (.str "fill")) (.cons (.cst (.str "tied")) (.cons (.cst (.str "apart")) (.cons (.cst (.str "cover")) .nil)))))))
 (.cons (.ret (.bi .tuple false (.cons (.bi .sorted false (.cons (.lc false [("name", 11)] (.idx (.lst false (.cons (.var 11 "name") (.cons (.bin .Add false (.cst (.str "xy")) (.sl false (.var 11 "name") .none (.some (.cst (.int 6))))) .nil))) (.bi .int false (.cons (.cmp .In (.var 11 "name") (.var 10 "words")) .nil))) (.one 11 "name") .seq (.cons (.var 7 "found") .nil) .none) .nil)) .nil)))
 .nil)))))))))))))⟩

def d_B_law_ways : Def := ⟨["number", "names"], ["number", "names", "way", "pairs", "k", "one", "j", "beside", "groups", "other"],
 (.cons (.asg (.one 2 "way") (.bin .Mod false (.var 0 "number") (.cst (.int 8))))
 (.cons (.asg (.one 3 "pairs") (.lst true .nil))
 (.cons (.for_ (.many [(4, "k"), (5, "one")]) .enum (.cons (.var 1 "names") .nil) (.cons (.for_ (.one 6 "j") .rng2 (.cons (.bin .Add false (.var 4 "k") (.cst (.int 1))) (.cons (.bi .len false (.cons (.var 1 "names") .nil)) .nil)) (.cons (.asg (.one 7 "beside") (.or (.cmp .Eq (.var 6 "j") (.bin .Add false (.var 4 "k") (.cst (.int 1)))) (.and (.cmp .Eq (.var 2 "way") (.cst (.int 2))) (.and (.cmp .Eq (.var 4 "k") (.cst (.int 0))) (.cmp .Eq (.var 6 "j") (.bin .Sub false (.bi .len false (.cons (.var 1 "names") .nil)) (.cst (.int 1))))))))
 (.cons (.asg (.one 8 "groups") (.tup (.cons (.cmp .Eq (.bin .FloorDiv false (.var 4 "k") (.cst (.int 3))) (.bin .FloorDiv false (.var 6 "j") (.cst (.int 3)))) (.cons (.cmp .NotEq (.bin .Mod false (.var 6 "j") (.cst (.int 2))) (.bin .Mod false (.var 4 "k") (.cst (.int 2)))) (.cons (.cmp .Eq (.bin .FloorDiv false (.var 4 "k") (.cst (.int 2))) (.bin .FloorDiv false (.var 6 "j") (.cst (.int 2)))) (.cons (.var 7 "beside") .nil))))))
 (.cons (.ex (.mt .append false (.var 3 "pairs") (.cons (.tup (.cons (.var 5 "one") (.cons (.idx (.var 1 "names") (.var 6 "j")) (.cons (.var 8 "groups") .nil)))) .nil)))
 .nil))))
 .nil))
 (.cons (.frz 3)
 (.cons (.ifs (.cmp .In (.var 2 "way") (.tup (.cons (.cst (.int 1)) (.cons (.cst (.int 2)) .nil)))) (.cons (.ret (.lc false [("one", 5), ("other", 9), ("groups", 8)] (.tup (.cons (.var 5 "one") (.cons (.var 9 "other") .nil))) (.many [(5, "one"), (9, "other"), (8, "groups")]) .seq (.cons (.var 3 "pairs") .nil) (.some (.idx (.var 8 "groups") (.cst (.int 3))))))
 .nil) .nil)
 (.cons (.ifs (.cmp .Eq (.var 2 "way") (.cst (.int 3))) (.cons (.ret (.lc false [("one", 5), ("other", 9), ("groups", 8)] (.tup (.cons (.var 5 "one") (.cons (.var 9 "other") .nil))) (.many [(5, "one"), (9, "other"), (8, "groups")]) .seq (.cons (.var 3 "pairs") .nil) (.some (.not (.idx (.var 8 "groups") (.cst (.int 0)))))))
 .nil) .nil)
 (.cons (.ifs (.cmp .Eq (.var 2 "way") (.cst (.int 4))) (.cons (.ret (.lc false [("one", 5), ("other", 9), ("groups", 8)] (.tup (.cons (.var 5 "one") (.cons (.var 9 "other") .nil))) (.many [(5, "one"), (9, "other"), (8, "groups")]) .seq (.cons (.var 3 "pairs") .nil) (.some (.idx (.var 8 "groups") (.cst (.int 1))))))
 .nil) .nil)
 (.cons (.ifs (.cmp .Eq (.var 2 "way") (.cst (.int 5))) (.cons (.ret (.lc false [("one", 5), ("other", 9), ("groups", 8)] (.tup (.cons (.var 5 "one") (.cons (.var 9 "other") .nil))) (.many [(5, "one"), (9, "other"), (8, "groups")]) .seq (.cons (.var 3 "pairs") .nil) (.some (.not (.idx (.var 8 "groups") (.cst (.int 2)))))))
 .nil) .nil)
 (.cons (.ifs (.cmp .Eq (.var 2 "way") (.cst (.int 6))) (.cons (.ret (.lc false [("one", 5), ("other", 9), ("groups", 8)] (.tup (.cons (.var 5 "one") (.cons (.var 9 "other") .nil))) (.many [(5, "one"), (9, "other"), (8, "groups")]) .seq (.cons (.var 3 "pairs") .nil) (.some (.idx (.var 8 "groups") (.cst (.int 0))))))
 .nil) .nil)
 (.cons (.ret (.lc false [("one", 5), ("other", 9), ("groups", 8)] (.tup (.cons (.var 5 "one") (.cons (.var 9 "other") .nil))) (.many [(5, "one"), (9, "other"), (8, "groups")]) .seq (.cons (.var 3 "pairs") .nil) (.some (.idx (.var 8 "groups") (.cst (.int 2))))))
 .nil))))))))))⟩

def d_B_law_web : Def := ⟨["script", "start", "most"], ["script", "start", "most", "head", "names", "kind", "patterned", "found", "k", "one", "j", "number", "tied"],
 (.cons (.asg (.one 3 "head") (.call "_law_number" (.cons (.var 0 "script") (.cons (.var 1 "start") .nil))))
 (.cons (.asg (.one 4 "names") (.call "_law_names" (.cons (.var 0 "script") (.cons (.bin .Add false (.var 1 "start") (.cst (.int 1))) (.cons (.bin .Mod false (.var 3 "head") (.bin .Add false (.var 2 "most") (.cst (.int 1)))) .nil)))))
 (.cons (.asg (.one 5 "kind") (.bin .Mod false (.bin .FloorDiv false (.var 3 "head") (.cst (.int 15))) (.cst (.int 5))))
 (.cons (.asg (.one 6 "patterned") (.call "_law_ways" (.cons (.bin .FloorDiv false (.var 3 "head") (.cst (.int 75))) (.cons (.var 4 "names") .nil))))
 (.cons (.asg (.one 7 "found") (.lst true .nil))
 (.cons (.for_ (.many [(8, "k"), (9, "one")]) .enum (.cons (.var 4 "names") .nil) (.cons (.for_ (.one 10 "j") .rng2 (.cons (.bin .Add false (.var 8 "k") (.cst (.int 1))) (.cons (.bi .len false (.cons (.var 4 "names") .nil)) .nil)) (.cons (.asg (.one 11 "number") (.call "_law_number" (.cons (.var 0 "script") (.cons (.bin .Add false (.bin .Add false (.bin .Add false (.var 1 "start") (.cst (.int 20))) (.bin .Mult false (.var 8 "k") (.cst (.int 14)))) (.var 10 "j")) .nil))))
 (.cons (.asg (.one 12 "tied") (.idx (.lst false (.cons (.cmp .Eq (.bin .Mod false (.var 11 "number") (.cst (.int 4))) (.cst (.int 0))) (.cons (.cmp .Eq (.bin .Mod false (.var 11 "number") (.cst (.int 2))) (.cst (.int 0))) (.cons (.cmp .Gt (.bin .Mod false (.var 11 "number") (.cst (.int 4))) (.cst (.int 0))) (.cons (.cst (.bool false)) (.cons (.cst (.bool false)) .nil)))))) (.var 5 "kind")))
 (.cons (.ifs (.cmp .Gt (.var 5 "kind") (.cst (.int 2))) (.cons (.asg (.one 12 "tied") (.cmp .NotEq (.cmp .In (.tup (.cons (.var 9 "one") (.cons (.idx (.var 4 "names") (.var 10 "j")) .nil))) (.var 6 "patterned")) (.and (.cmp .Eq (.var 5 "kind") (.cst (.int 4))) (.cmp .Eq (.bin .Mod false (.var 11 "number") (.cst (.int 11))) (.cst (.int 0))))))
 .nil) .nil)
 (.cons (.ifs (.var 12 "tied") (.cons (.ex (.mt .append false (.var 7 "found") (.cons (.tup (.cons (.var 9 "one") (.cons (.idx (.var 4 "names") (.var 10 "j")) .nil))) .nil)))
 .nil) .nil)
 .nil)))))
 .nil))
 (.cons (.frz 7)
 (.cons (.ret (.tup (.cons (.var 4 "names") (.cons (.bi .tuple false (.cons (.var 7 "found") .nil)) .nil))))
 .nil))))))))⟩

end Sy

namespace Sy
open PySem PySem.Spec PyProof.Rows L2
local macro_rules | `(tactic| simp! only [$ls,*]) => `(tactic| try simp only [callX_fold, mnA, mxA, strS, wB, wS, wT, wE, wA, wO, wC, tgS, binS, cmpS, biS, r1, r2, mtS, augS, cstS, splitS, opI_int, add_int, add_str, add_tup, add_ll, newL_f, newL_t, mul_int, ord_int, ord_str, int_int, int_bl, mn_int, mx_int, mn_str, mx_str, tuple_tup, tuple_tuf, tuple_lst, tuple_lstT, sl_lst, sl_tup, sl_scr, sl_str, it_lst, it_str, it_tup, it_tuf, it_enU, it_zU, it_rng1, it_rng2, it_enL, it_enT, it_zL, it_zT, List.set_cons_zero, List.set_cons_succ, List.getElem?_cons_zero, List.getElem?_cons_succ, some_ex, some_ex2, bl_ex, int_ex, eqS_int, idx_lst, idx_tup, idx_tuf, idx_str, len_lst, len_tup, len_tuf, len_scr, at_0, at_1, at_2, true_and, and_true, Int.fmod_eq_emod_of_nonneg, Int.fdiv_eq_ediv_of_nonneg, ne_eq, reduceCtorEq, not_false_eq_true, if_true, if_false, Bool.false_eq_true, decide_eq_true_eq, Int.reduceEq, Int.reduceLE, Int.reduceLT, $ls,*])
theorem list_scr {S : Sto} {l : List SV} {own : Bool} {k : SK} : listS own (.scr l) S k = newL own l S k := by
  unfold listS
  have e : srcOf S (.scr l) = some l := rfl
  simp only [e, Option.some.injEq, exists_eq_left']
section
variable {Pr : PySem.Str → Option Def} {g : PySem.Str → Option SV}
theorem number_ok (pn : Pr "_law_number" = some d_B_law_number) {k : Nat} {S : Sto} {ns : List Int} {i : Int} {Q : SK} (hl : ns.length ≤ 63) (h0 : 0 ≤ i) (q : ∀ r, 0 ≤ r → r < 1000000 → Q (.int r) S) : callS Pr g (k + 1) "_law_number" [.scr (ns.map SV.int), .int i] S Q := by
  have hz : (20000 : Nat) ≤ sizeLine := by decide
  refine ⟨d_B_law_number, pn, rfl, ?_⟩
  show wB _ _ d_B_law_number.body _ [some (.scr (ns.map SV.int)), some (.int i), none, none, none, none, none, none, none] S
  unfold d_B_law_number
  simp! only [list_scr, List.length_map, List.length_append, List.length_cons, List.length_nil]
  refine ⟨by omega, by decide, by omega, ?_⟩
  have hsz : ∃ sz : Int, (if (ns.length : Int) > 1 then (ns.length : Int) else 1) = sz ∧ 1 ≤ sz ∧ sz ≤ 63 ∧ sz ≤ ns.length + 1 := by
    refine ⟨_, rfl, ?_, ?_, ?_⟩ <;> split <;> omega
  obtain ⟨sz, e, z1, z2, z3⟩ := hsz
  rw [e]
  have ez : (ns.map SV.int ++ [SV.int 0]) = (ns ++ [0]).map SV.int := by simp
  have m0 := Int.emod_nonneg i (show sz ≠ 0 by omega)
  have m1 := Int.emod_lt_of_pos i (show 0 < sz by omega)
  have t0 : 0 ≤ i / sz := Int.ediv_nonneg h0 (by omega)
  rw [ez, Int.fmod_eq_emod_of_nonneg _ (by omega), Int.fdiv_eq_ediv_of_nonneg _ (by omega)]
  have hix : (i % sz).toNat < ((ns ++ [0]).map SV.int).length := by simp; omega
  have hat : ∃ c : Int, atI ((ns ++ [0]).map SV.int) (i % sz) = some (.int c) := ⟨_, by rw [at_of m0 (by omega), List.getElem_map]⟩
  obtain ⟨c, hc⟩ := hat
  refine ⟨by omega, _, hc, cdiv_ (by omega) (by omega), ?_⟩
  simp! only []
  generalize i / sz = t at t0 ⊢
  refine ⟨by split <;> omega, by split <;> omega, ?_⟩
  refine for_inv (fun _ ρ S' => S' = S ∧ ∃ (r : Int) (v7 : Option SV), ρ = [some (.scr (ns.map SV.int)), some (.int i), some (.lst ((ns ++ [0]).map SV.int)), some (.int sz), some (.int c), some (.int t), some (.int r), v7, none]) ⟨rfl, _, _, rfl⟩ ?_ ?_
  · rintro j x ρ S' D hx ⟨rfl, r, v7, rfl⟩ nx _ _ _
    simp! only []
    exact ⟨cdiv_ (by decide) (by decide), nx _ _ ⟨rfl, _, _, rfl⟩⟩
  rintro ρ S' ⟨rfl, r, v7, rfl⟩
  simp! only []
  refine ⟨⟨by omega, by omega, by decide⟩, ?_⟩
  split
  · split
    · split
      · exact fin_same (q _ (Int.emod_nonneg _ (by omega)) (Int.emod_lt_of_pos _ (by omega)))
      · exact ⟨cmul_l (by decide) (by decide), cmul_l (by decide) (by decide), cmul_r (by decide) (by decide), cmul_l (by omega) (by omega), cmul_l (by decide) (by decide), cmul_l (by decide) (by decide), cmul_r (by decide) (by decide), cdiv_ (by decide) (by decide), fin_same (q _ (Int.emod_nonneg _ (by omega)) (Int.emod_lt_of_pos _ (by omega)))⟩
    · exact ⟨cmul_l (by decide) (by decide), cmul_l (by decide) (by decide), cmul_r (by decide) (by decide), cmul_l (by omega) (by omega), cmul_l (by decide) (by decide), cmul_l (by decide) (by decide), cmul_r (by decide) (by decide), cdiv_ (by decide) (by decide), fin_same (q _ (Int.emod_nonneg _ (by omega)) (Int.emod_lt_of_pos _ (by omega)))⟩
  · exact ⟨cmul_l (by decide) (by decide), cmul_l (by decide) (by decide), cmul_r (by decide) (by decide), cmul_l (by omega) (by omega), cmul_l (by decide) (by decide), cmul_l (by decide) (by decide), cmul_r (by decide) (by decide), cdiv_ (by decide) (by decide), fin_same (q _ (Int.emod_nonneg _ (by omega)) (Int.emod_lt_of_pos _ (by omega)))⟩
end
end Sy

namespace Sy
open PySem PySem.Spec PyProof.Rows L2
/-! ### the names of the webs of this family -/
def baseW : List PySem.Str := ["", "", "one", "zz", "b", "ties", "place", "lengthy"]
def menuW : List PySem.Str := ["p", "q", "pp", "pq", "qp", "qq", "ppq", "pqp", "qpp", "pqq", "qpq", "qqp", "qqqq", "pqpqpqp", "qpqpqpq"]
def inW (b : PySem.Str) (a : Int) (ch : Nat) : PySem.Str := cutS b none (some a) ++ ⟨#[ch]⟩ ++ cutS b (some a) none
def wokB (a : PySem.Str) : Bool := ((wk a).all fun ch => decide (97 ≤ ch) && decide (ch ≤ 122)) && decide (1 ≤ a.length) && decide (a.length ≤ 8) && !(ownW.contains a)
theorem wok_of {a : PySem.Str} (h : wokB a = true) : WOk a := by
  unfold wokB at h
  simp only [Bool.and_eq_true, decide_eq_true_eq, List.all_eq_true, Bool.not_eq_true', List.contains_eq_mem, decide_eq_false_iff_not] at h
  exact ⟨h.1.1.1, h.1.1.2, h.1.2, h.2⟩
/-- such a name, and not this one -/
def WOkN (a : PySem.Str) : Prop := WOk a ∧ a ≠ "nowhere"
def wokN (a : PySem.Str) : Bool := wokB a && !decide (a = "nowhere")
theorem wokN_of {a : PySem.Str} (h : wokN a = true) : WOkN a := by
  unfold wokN at h
  rw [Bool.and_eq_true] at h
  exact ⟨wok_of h.1, by simpa using h.2⟩
theorem menu_wokN : ∀ a ∈ menuW, WOkN a := fun a ha => wokN_of (List.all_eq_true.mp (by decide +kernel : menuW.all wokN = true) a ha)
theorem menu_nd : menuW.Nodup := by decide +kernel
theorem inW_wokN {b : PySem.Str} (hb : b ∈ baseW) {a : Int} (h0 : 0 ≤ a) (h1 : a < 8) {ch : Nat} (c0 : 97 ≤ ch) (c1 : ch ≤ 122) : WOkN (inW b a ch) := by
  have h : (baseW.all fun b => (List.range 8).all fun a => (List.range 26).all fun c => wokN (inW b (a : Int) (97 + c))) = true := by decide +kernel
  have q := List.all_eq_true.mp (List.all_eq_true.mp (List.all_eq_true.mp h b hb) a.toNat (List.mem_range.mpr (by omega))) (ch - 97) (List.mem_range.mpr (by omega))
  rw [show ((a.toNat : Nat) : Int) = a by omega, show 97 + (ch - 97) = ch by omega] at q
  exact wokN_of q
theorem wk_inW (b : PySem.Str) (a : Int) (ch : Nat) : wk (inW b a ch) = cutL (wk b) none (some a) ++ (ch :: cutL (wk b) (some a) none) := by
  unfold inW
  rw [wk_app, wk_app, wk_cut, wk_cut, wk_one, List.append_assoc]
  rfl
theorem inW_len {b : PySem.Str} (hb : b ∈ baseW) {a : Int} (h0 : 0 ≤ a) (h1 : a < 8) (ch : Nat) : (inW b a ch).length = b.length + 1 := by
  have h : (baseW.all fun b => (List.range 8).all fun a => decide ((cutL (wk b) none (some (a : Int))).length + (cutL (wk b) (some (a : Int)) none).length = b.length)) = true := by decide +kernel
  have q := of_decide_eq_true (List.all_eq_true.mp (List.all_eq_true.mp h b hb) a.toNat (List.mem_range.mpr (by omega)))
  rw [show ((a.toNat : Nat) : Int) = a by omega] at q
  rw [← wk_len, wk_inW, List.length_append, List.length_cons]
  omega
theorem inW_inj {b b' : PySem.Str} (hb : b ∈ baseW) (hb' : b' ∈ baseW) {a : Int} (h0 : 0 ≤ a) (h1 : a < 8) {ch ch' : Nat} (e : inW b a ch = inW b' a ch') : ch = ch' := by
  have hl := congrArg PySem.Str.length e
  rw [inW_len hb h0 h1, inW_len hb' h0 h1] at hl
  have h : (baseW.all fun b => baseW.all fun b' => decide (b.length ≠ b'.length) || decide (b = b')) = true := by decide +kernel
  have q := List.all_eq_true.mp (List.all_eq_true.mp h b hb) b' hb'
  have q' : b = b' := by
    rcases Bool.or_eq_true _ _ |>.mp q with z | z
    · exact absurd (by omega) (of_decide_eq_true z)
    · exact of_decide_eq_true z
  subst q'
  have w := congrArg wk e
  rw [wk_inW, wk_inW] at w
  exact (List.cons.inj (List.append_cancel_left w)).1
/-- letters by fives -/
theorem fives {f : Int} {i j : Nat} (hi : i < 15) (hj : j < 15) (e : 97 + ((f + 5 * (i : Int)) % 26).toNat = 97 + ((f + 5 * (j : Int)) % 26).toNat) : i = j := by omega
end Sy

namespace Sy
open PySem PySem.Spec PyProof.Rows L2
local macro_rules | `(tactic| simp! only [$ls,*]) => `(tactic| try simp only [callX_fold, mnA, mxA, strS, wB, wS, wT, wE, wA, wO, wC, tgS, binS, cmpS, biS, r1, r2, mtS, augS, cstS, splitS, opI_int, add_int, add_str, add_tup, add_ll, newL_f, newL_t, mul_int, ord_int, ord_str, int_int, int_bl, mn_int, mx_int, mn_str, mx_str, tuple_tup, tuple_tuf, tuple_lst, tuple_lstT, sl_lst, sl_tup, sl_scr, sl_str, it_lst, it_str, it_tup, it_tuf, it_enU, it_zU, it_rng1, it_rng2, it_enL, it_enT, it_zL, it_zT, List.set_cons_zero, List.set_cons_succ, List.getElem?_cons_zero, List.getElem?_cons_succ, some_ex, some_ex2, bl_ex, int_ex, eqS_int, idx_lst, idx_tup, idx_tuf, idx_str, len_lst, len_tup, len_tuf, len_scr, at_0, at_1, at_2, true_and, and_true, Int.fmod_eq_emod_of_nonneg, Int.fdiv_eq_ediv_of_nonneg, ne_eq, reduceCtorEq, not_false_eq_true, if_true, if_false, Bool.false_eq_true, decide_eq_true_eq, Int.reduceEq, Int.reduceLE, Int.reduceLT, $ls,*])
theorem popB {S : Sto} {p : Addr} {l : List SV} {i : Int} {k : SK} (h : S p = some (.lst l)) (h0 : 0 ≤ i) (h1 : i < (l.length : Int)) (hz : l.length ≤ 1000000) (q : ∀ y, l[i.toNat]? = some y → k y (supd S p (.lst (l.eraseIdx i.toNat)))) : popS (.own p) (.int i) S k := by
  have hy : ∃ y, l[i.toNat]? = some y := ⟨_, List.getElem?_eq_getElem (by omega)⟩
  obtain ⟨y, hy⟩ := hy
  exact ⟨l, _, y, h, by omega, by omega, ixN_of h0 h1, hy, q y hy⟩
theorem sub_of {S S' : Sto} (h : ∀ a, S a ≠ none → S' a = S a) : Sub S S' := fun a o e => by
  rw [h a (by rw [e]; exact fun z => by cases z)]
  exact e
theorem map_erase {α β : Type} (f : α → β) : ∀ (l : List α) (i : Nat), (l.map f).eraseIdx i = (l.eraseIdx i).map f
  | [], _ => rfl
  | _ :: _, 0 => rfl
  | x :: l, i + 1 => by
    rw [List.map_cons, List.eraseIdx_cons_succ, List.eraseIdx_cons_succ, List.map_cons, map_erase f l i]
theorem perm_erase {α : Type} : ∀ {l : List α} {i : Nat} {x : α}, l[i]? = some x → (x :: l.eraseIdx i).Perm l
  | [], i, x, h => by simp at h
  | y :: l, 0, x, h => by
    have e : y = x := by simpa using h
    rw [e]
    exact List.Perm.refl _
  | y :: l, i + 1, x, h => by
    rw [List.eraseIdx_cons_succ]
    exact (List.Perm.swap y x _).trans ((perm_erase (by simpa using h)).cons y)
theorem at_mem {α : Type} {l : List α} {i : Int} (h : 0 ≤ i) (h2 : i < l.length) : ∃ v ∈ l, atI l i = some v := ⟨_, List.getElem_mem _, at_of h h2⟩
section
variable {Pr : PySem.Str → Option Def} {g : PySem.Str → Option SV}
theorem namesB_ok (pn : Pr "_law_number" = some d_B_law_number) (pm : Pr "_law_names" = some d_B_law_names) {k : Nat} {S : Sto} {ns : List Int} {st m : Int} {Q : SK} (hl : ns.length ≤ 63) (h0 : 0 ≤ st) (m0 : 0 ≤ m) (m1 : m ≤ 14)
    (q : ∀ L : List PySem.Str, (L.length : Int) = m → L.Nodup → L.Pairwise (fun a b => wle a b = true) → (∀ w ∈ L, WOkN w) → Q (.tuf (wS_ L)) S) : callS Pr g (k + 2) "_law_names" [.scr (ns.map SV.int), .int st, .int m] S Q := by
  have hz : (20000 : Nat) ≤ sizeLine := by decide
  have done : ∀ ws : List PySem.Str, (ws.length : Int) = m → ws.Nodup → (∀ w ∈ ws, WOkN w) → Q (.tuf (wS_ (ws.mergeSort wle))) S := fun ws e nd ok => by
    have hperm := List.mergeSort_perm ws wle
    exact q _ (by rw [hperm.length_eq]; exact e) (hperm.nodup_iff.mpr nd) (List.pairwise_mergeSort wle_trans wle_total ws) fun w hw => ok w (hperm.mem_iff.mp hw)
  refine ⟨d_B_law_names, pm, rfl, ?_⟩
  show wB _ _ d_B_law_names.body _ [some (.scr (ns.map SV.int)), some (.int st), some (.int m), none, none, none, none, none, none, none, none, none] S
  unfold d_B_law_names
  simp! only []
  refine ⟨by show 8 ≤ sizeLine; omega, ?_⟩
  refine number_ok pn hl h0 fun fi f0 f1 => ?_
  simp! only []
  refine ⟨cdiv_ (by decide) (by decide), by decide, fun p hp => ?_⟩
  have em : ([SV.str "p", SV.str "q", SV.str "pp", SV.str "pq", SV.str "qp", SV.str "qq", SV.str "ppq", SV.str "pqp", SV.str "qpp", SV.str "pqq", SV.str "qpq", SV.str "qqp", SV.str "qqqq", SV.str "pqpqpqp", SV.str "qpqpqpq"] : List SV) = wS_ menuW := rfl
  have eb : ([SV.str "", SV.str "", SV.str "one", SV.str "zz", SV.str "b", SV.str "ties", SV.str "place", SV.str "lengthy"] : List SV) = wS_ baseW := rfl
  rw [em, eb]
  refine ⟨by show 15 ≤ sizeLine; omega, fun u hu => ⟨cdiv_ (by decide) (by decide), ?_⟩⟩
  have hup : u ≠ p := fun e => by rw [e, supd_same] at hu; cases hu
  have hu0 : S u = none := by rw [supd_ne hup] at hu; exact hu
  have sb : ∀ S' : Sto, (∀ a, a ≠ p → a ≠ u → S' a = S a) → Sub S S' := fun S' fr => sub_of fun a ha => fr a (fun e => ha (by rw [e]; exact hp)) (fun e => ha (by rw [e]; exact hu0))
  split
  · refine ⟨by omega, by omega, ?_⟩
    simp! only [wipeR, List.map_cons, List.map_nil]
    refine lc_inv (fun j acc S' => ∃ ws rest : List PySem.Str, acc = wS_ ws ∧ ws.length = j ∧ (ws ++ rest).Perm menuW ∧ S' u = some (.lst (wS_ rest)) ∧ ∀ a, a ≠ p → a ≠ u → S' a = S a) ⟨[], menuW, rfl, rfl, List.Perm.refl _, supd_same, fun a h1 h2 => by rw [supd_ne h2, supd_ne h1]⟩ (by rw [rng_ln]; omega) ?_ ?_
    · rintro j x acc S' kk kf hx ⟨ws, rest, rfl, rfl, pm, hS, fr⟩ nx _
      obtain ⟨rfl, hj⟩ := rng_at hx
      have hlen : ws.length + rest.length = 15 := by
        have := pm.length_eq
        rw [List.length_append] at this
        rw [this]
        rfl
      simp! only []
      refine ⟨⟨_, items_own hS⟩, ?_⟩
      refine number_ok pn hl (by omega) fun r ra rb => ?_
      simp! only [len_own hS, List.length_map]
      refine ⟨by omega, ?_⟩
      try rw [Int.fmod_eq_emod_of_nonneg _ (by omega)]
      have e0 := Int.emod_nonneg r (show (rest.length : Int) ≠ 0 by omega)
      have e1 := Int.emod_lt_of_pos r (show (0 : Int) < rest.length by omega)
      refine popB hS (by omega) (by rw [List.length_map]; omega) (by rw [List.length_map]; omega) fun y hy => ?_
      rw [List.getElem?_map] at hy
      obtain ⟨w, hw, rfl⟩ := Option.map_eq_some_iff.mp hy
      refine nx _ _ ⟨ws ++ [w], rest.eraseIdx (r % (rest.length : Int)).toNat, by simp, by simp, ?_, ?_, fun a h1 h2 => by rw [supd_ne h2]; exact fr a h1 h2⟩
      · rw [List.append_assoc]
        exact ((perm_erase hw).append_left ws).trans pm
      · rw [supd_same, map_erase]
    rintro acc S' ⟨ws, rest, rfl, hj, pm, hS, fr⟩
    rw [rng_ln] at hj
    rw [sorted_words seqOf_lst]
    simp! only [List.length_map]
    refine ⟨by omega, by rw [(List.mergeSort_perm ws wle).length_eq]; omega, S, _, sb S' fr, .same _, ?_⟩
    have nd : (ws ++ rest).Nodup := pm.nodup_iff.mpr menu_nd
    refine done ws (by omega) (List.nodup_append.mp nd).1 fun w hw => menu_wokN w (pm.mem_iff.mp (List.mem_append_left _ hw))
  · refine ⟨u, wo (supd (supd S p (.lst [])) u (.lst (wS_ menuW))) u, .lst (wS_ menuW), rfl, wo_sub, wo_frz supd_same, ?_⟩
    simp! only []
    refine ⟨by omega, by omega, ?_⟩
    have hS0 : wo (supd (supd S p (.lst [])) u (.lst (wS_ menuW))) u p = some (.lst []) := by rw [wo_ne (Ne.symm hup), supd_ne (Ne.symm hup), supd_same]
    have hfr0 : ∀ a, a ≠ p → a ≠ u → wo (supd (supd S p (.lst [])) u (.lst (wS_ menuW))) u a = S a := fun a h1 h2 => by rw [wo_ne h2, supd_ne h2, supd_ne h1]
    have a0 := Int.emod_nonneg (fi / 26) (show (8 : Int) ≠ 0 by decide)
    have a1 := Int.emod_lt_of_pos (fi / 26) (show (0 : Int) < 8 by decide)
    generalize fi / 26 % 8 = at_ at a0 a1 ⊢
    refine for_inv (fun j ρ S' => ∃ (ws : List PySem.Str) (v9 v11 : Option SV), ρ = [some (.scr (ns.map SV.int)), some (.int st), some (.int m), some (.str abc), some (.lst (wS_ baseW)), some (.int fi), some (.int at_), some (.own p), some (.lst (wS_ menuW)), v9, none, v11] ∧ ws.length = j ∧ S' p = some (.lst (wS_ ws)) ∧ (∀ a, a ≠ p → a ≠ u → S' a = S a) ∧ ∀ (i : Nat) w, ws[i]? = some w → ∃ b ∈ baseW, w = inW b at_ (97 + ((fi + 5 * (i : Int)) % 26).toNat)) ⟨[], none, none, rfl, rfl, hS0, hfr0, fun i w h => (by simp at h)⟩ ?_ ?_
    · rintro j x ρ S' D hx ⟨ws, v9, v11, rfl, rfl, hS, fr, hw⟩ nx _ _ _
      obtain ⟨rfl, hj⟩ := rng_at hx
      simp! only []
      refine ⟨cdiv_ (by decide) (by decide), cmul_r (by omega) (by omega), ?_⟩
      have c0 := Int.emod_nonneg (fi / 208) (show (2 : Int) ≠ 0 by decide)
      have c1 := Int.mul_nonneg (show (0 : Int) ≤ 0 + (ws.length : Int) by omega) c0
      refine number_ok pn hl (by omega) fun r ra rb => ?_
      simp! only []
      obtain ⟨v, hv, ev⟩ := at_mem (l := wS_ baseW) (i := r % 8) (by omega) (by rw [List.length_map]; show r % 8 < 8; omega)
      obtain ⟨b, hb, rfl⟩ := List.mem_map.mp hv
      have b0 := Int.emod_nonneg (fi + 5 * (0 + (ws.length : Int))) (show (26 : Int) ≠ 0 by decide)
      have b1 := Int.emod_lt_of_pos (fi + 5 * (0 + (ws.length : Int))) (show (0 : Int) < 26 by decide)
      have bl : b.length ≤ 7 := by
        have h : (baseW.all fun b => decide (b.length ≤ 7)) = true := by decide +kernel
        exact of_decide_eq_true (List.all_eq_true.mp h b hb)
      have hnew : ∃ ch, ch = 97 + ((fi + 5 * (0 + (ws.length : Int))) % 26).toNat ∧ 97 ≤ ch ∧ ch ≤ 122 := ⟨_, rfl, by omega, by omega⟩
      obtain ⟨ch, ech, ch0, ch1⟩ := hnew
      have hL := inW_len hb a0 a1 ch
      refine ⟨_, ev, ⟨_, items_own hS⟩, ?_⟩
      simp! only []
      refine ⟨by omega, cmul_l (by decide) (by decide), by decide, _, at_abc b0 b1, ?_⟩
      rw [← ech]
      have l1 : (cutS b none (some at_) ++ (⟨#[ch]⟩ : PySem.Str)).length ≤ 8 := by
        have : (inW b at_ ch).length = (cutS b none (some at_) ++ (⟨#[ch]⟩ : PySem.Str)).length + (cutS b (some at_) none).length := by
          unfold inW
          rw [len_app]
        omega
      have l2 : (cutS b none (some at_) ++ (⟨#[ch]⟩ : PySem.Str)).length + (cutS b (some at_) none).length ≤ 8 := by
        have : (inW b at_ ch).length = (cutS b none (some at_) ++ (⟨#[ch]⟩ : PySem.Str)).length + (cutS b (some at_) none).length := by
          unfold inW
          rw [len_app]
        omega
      rw [len_app] at l1
      refine ⟨by omega, by omega, by omega, ?_⟩
      rw [append_own hS]
      refine ⟨by rw [List.length_map]; omega, nx _ _ ⟨ws ++ [inW b at_ ch], _, _, rfl, by simp, ?_, fun a h1 h2 => by rw [supd_ne h1]; exact fr a h1 h2, fun i w h => ?_⟩⟩
      · rw [supd_same]
        show some (SO.lst (List.map SV.str ws ++ [SV.str (inW b at_ ch)])) = some (SO.lst (List.map SV.str (ws ++ [inW b at_ ch])))
        rw [List.map_append]
        rfl
      · by_cases hi : i < ws.length
        · rw [List.getElem?_append_left hi] at h
          exact hw i w h
        · rw [List.getElem?_append_right (by omega)] at h
          have hi' : i - ws.length = 0 := by
            have := (List.getElem?_eq_some_iff.mp h).1
            simp at this
            omega
          rw [hi'] at h
          have e : inW b at_ ch = w := by simpa using h
          refine ⟨b, hb, ?_⟩
          rw [← e, ech]
          have : i = ws.length := by
            have := (List.getElem?_eq_some_iff.mp h).1
            omega
          rw [this, Int.zero_add]
    rintro ρ S' ⟨ws, v9, v11, rfl, hj, hS, fr, hw⟩
    rw [rng_ln] at hj
    have hokN : ∀ w ∈ ws, WOkN w := fun w hm => by
      obtain ⟨i, hi⟩ := List.mem_iff_getElem?.mp hm
      obtain ⟨b, hb, rfl⟩ := hw i w hi
      exact inW_wokN hb a0 a1 (by omega) (by omega)
    have hok : ∀ w ∈ ws, WOk w := fun w hm => (hokN w hm).1
    have hnd : ws.Nodup := by
      refine List.pairwise_iff_getElem.mpr fun i j hi hjl hij e => ?_
      obtain ⟨b, hb, e1⟩ := hw i _ (List.getElem?_eq_getElem hi)
      obtain ⟨b', hb', e2⟩ := hw j _ (List.getElem?_eq_getElem hjl)
      rw [e] at e1
      have := fives (by omega) (by omega) (inW_inj hb hb' a0 a1 (e1.symm.trans e2))
      omega
    refine ⟨p, wo S' p, .lst (wS_ ws), rfl, wo_sub, wo_frz hS, ?_⟩
    simp! only [wipeR, List.map_cons, List.map_nil, List.length_append, List.length_cons, List.length_nil]
    have eo : ([SV.str "web", SV.str "put", SV.str "take", SV.str "tie", SV.str "untie", SV.str "show", SV.str "first", SV.str "next", SV.str "all", SV.str "count", SV.str "sizes", SV.str "biggest"] ++ [SV.str "fill", SV.str "tied", SV.str "apart", SV.str "cover"] : List SV) = wS_ ownW := rfl
    rw [eo]
    refine ⟨by omega, by omega, by omega, ?_⟩
    refine lc_on SV.str (fun a => some (SV.str a)) (by omega) ?_ ?_
    · intro a ha kk kf h1 _
      have wa := hok a ha
      have cl := cut_len (wk a) none (some 6)
      have cl' : (cutS a none (some 6)).length ≤ a.length := by
        rw [← wk_len, wk_cut, ← wk_len a]
        exact cl
      have w8 := wa.l8
      simp! only []
      refine ⟨by omega, by show 2 + (cutS a none (some 6)).length ≤ sizeLine; omega, by omega, ?_⟩
      rw [inK_lst, in_words (low_ok wa.low) fun x hx => low_ok (own_low x hx).1]
      simp! only [Bool.false_xor, wa.no, decide_false]
      exact h1 _ rfl
    have ef : ws.filterMap (fun a => some (SV.str a)) = wS_ ws := by
      rw [List.filterMap_eq_map']
    rw [ef]
    rw [sorted_words seqOf_lst]
    simp! only [List.length_map]
    refine ⟨by omega, by rw [(List.mergeSort_perm ws wle).length_eq]; omega, S, _, sub_of fun a ha => ?_, .same _, done ws (by omega) hnd hokN⟩
    have h1 : a ≠ p := fun e => ha (by rw [e]; exact hp)
    have h2 : a ≠ u := fun e => ha (by rw [e]; exact hu0)
    rw [wo_ne h1, fr a h1 h2]
end
end Sy

namespace Sy
open PySem PySem.Spec PyProof.Rows L2
local macro_rules | `(tactic| simp! only [$ls,*]) => `(tactic| try simp only [callX_fold, mnA, mxA, strS, wB, wS, wT, wE, wA, wO, wC, tgS, binS, cmpS, biS, r1, r2, mtS, augS, cstS, splitS, opI_int, add_int, add_str, add_tup, add_ll, newL_f, newL_t, mul_int, ord_int, ord_str, int_int, int_bl, mn_int, mx_int, mn_str, mx_str, tuple_tup, tuple_tuf, tuple_lst, tuple_lstT, sl_lst, sl_tup, sl_scr, sl_str, it_lst, it_str, it_tup, it_tuf, it_enU, it_zU, it_rng1, it_rng2, it_enL, it_enT, it_zL, it_zT, List.set_cons_zero, List.set_cons_succ, List.getElem?_cons_zero, List.getElem?_cons_succ, some_ex, some_ex2, bl_ex, int_ex, eqS_int, idx_lst, idx_tup, idx_tuf, idx_str, len_lst, len_tup, len_tuf, len_scr, at_0, at_1, at_2, true_and, and_true, Int.fmod_eq_emod_of_nonneg, Int.fdiv_eq_ediv_of_nonneg, ne_eq, reduceCtorEq, not_false_eq_true, if_true, if_false, Bool.false_eq_true, decide_eq_true_eq, Int.reduceEq, Int.reduceLE, Int.reduceLT, $ls,*])
abbrev Quad := PySem.Str × PySem.Str × Bool × Bool × Bool × Bool
def encQ (t : Quad) : SV := .tup [.str t.1, .str t.2.1, .tup [.bl t.2.2.1, .bl t.2.2.2.1, .bl t.2.2.2.2.1, .bl t.2.2.2.2.2]]
def rowQ (t : Quad) : List PySem.Str := [t.1, t.2.1]
theorem at_3 {x y v w : SV} {l : List SV} : atI (x :: y :: v :: w :: l) 3 = some w := by
  have : atI (x :: y :: v :: w :: l) ((3 : Nat) : Int) = some w := atI_nat (by rfl)
  exact this
theorem fm_ite {α β : Type} (c : α → Bool) (h : α → β) : ∀ l : List α, l.filterMap (fun t => if c t = true then some (h t) else none) = (l.filter c).map h
  | [] => rfl
  | t :: l => by
    rw [List.filterMap_cons, List.filter_cons]
    by_cases hc : c t = true
    · simp only [hc, if_true, fm_ite c h l, List.map_cons]
    · simp only [hc, if_false, fm_ite c h l, Bool.false_eq_true]
section
variable {Pr : PySem.Str → Option Def} {g : PySem.Str → Option SV}
theorem waysB_ok (pm : Pr "_law_ways" = some d_B_law_ways) {k : Nat} {S : Sto} {n : Int} {L : List PySem.Str} {Q : SK} (h0 : 0 ≤ n) (hL : L.length ≤ 14)
    (q : ∀ P : List (List PySem.Str), (∀ r ∈ P, ∀ x ∈ r, x ∈ L) → Q (.lst (P.map rS)) S) : callS Pr g (k + 1) "_law_ways" [.int n, .tuf (wS_ L)] S Q := by
  have hz : (20000 : Nat) ≤ sizeLine := by decide
  refine ⟨d_B_law_ways, pm, rfl, ?_⟩
  show wB _ _ d_B_law_ways.body _ [some (.int n), some (.tuf (wS_ L)), none, none, none, none, none, none, none, none] S
  unfold d_B_law_ways
  simp! only []
  refine ⟨by show 0 ≤ sizeLine; omega, fun p hp => ?_⟩
  refine for_inv (fun i ρ S' => ∃ (ps : List Quad) (v4 v5 v6 v7 v8 : Option SV), ρ = [some (.int n), some (.tuf (wS_ L)), some (.int (n % 8)), some (.own p), v4, v5, v6, v7, v8, none] ∧ ps.length ≤ 14 * i ∧ S' p = some (.lst (ps.map encQ)) ∧ (∀ a, a ≠ p → S' a = S a) ∧ ∀ t ∈ ps, t.1 ∈ L ∧ t.2.1 ∈ L) ⟨[], none, none, none, none, none, rfl, by simp, supd_same, fun a h => supd_ne h, fun t ht => (by cases ht)⟩ ?_ ?_
  · rintro i x ρ S' D hx ⟨ps, v4, v5, v6, v7, v8, rfl, hl, hS, fr, hm⟩ nx _ _ _
    obtain ⟨y, hy, rfl⟩ := enum_at hx
    rw [List.getElem?_map] at hy
    obtain ⟨one, ho, rfl⟩ := Option.map_eq_some_iff.mp hy
    have hi : i < L.length := (List.getElem?_eq_some_iff.mp ho).1
    have honeL := List.mem_of_getElem? ho
    refine ⟨_, _, .inl rfl, rfl, ?_⟩
    simp! only [List.map_cons, List.map_nil, List.length_map]
    refine ⟨⟨by omega, by omega, by omega, by omega⟩, ?_⟩
    refine for_inv (fun j ρ S' => ∃ (ps : List Quad) (v6 v7 v8 : Option SV), ρ = [some (.int n), some (.tuf (wS_ L)), some (.int (n % 8)), some (.own p), some (.int ((0 + i : Nat) : Int)), some (.str one), v6, v7, v8, none] ∧ ps.length ≤ 14 * i + j ∧ S' p = some (.lst (ps.map encQ)) ∧ (∀ a, a ≠ p → S' a = S a) ∧ ∀ t ∈ ps, t.1 ∈ L ∧ t.2.1 ∈ L) ⟨ps, _, _, _, rfl, by omega, hS, fr, hm⟩ ?_ ?_
    · rintro j x ρ S'' D' hx' ⟨ps, v6, v7, v8, rfl, hl, hS, fr, hm⟩ nx' _ _ _
      obtain ⟨rfl, hj⟩ := rng_at hx'
      have hot : ∃ other, L[i + 1 + j]? = some other := ⟨_, List.getElem?_eq_getElem (by omega)⟩
      obtain ⟨other, ht⟩ := hot
      have et : atI (wS_ L) (((0 + i : Nat) : Int) + 1 + (j : Int)) = some (.str other) := by
        rw [show ((0 + i : Nat) : Int) + 1 + (j : Int) = ((i + 1 + j : Nat) : Int) by omega]
        exact atI_nat (by rw [List.getElem?_map, ht]; rfl)
      simp! only [et]
      have leaf : ∀ a b c d : Bool, appendS (.own p) (.tup [.str one, .str other, .tup [.bl a, .bl b, .bl c, .bl d]]) S'' fun x S1 => D'.nx [some (.int n), some (.tuf (wS_ L)), some (.int (n % 8)), some (.own p), some (.int ((0 + i : Nat) : Int)), some (.str one), some (.int (((0 + i : Nat) : Int) + 1 + (j : Int))), some (.bl d), some (.tup [.bl a, .bl b, .bl c, .bl d]), none] S1 := fun a b c d => by
        rw [append_own hS]
        refine ⟨by rw [List.length_map]; omega, nx' _ _ ⟨ps ++ [(one, other, a, b, c, d)], _, _, _, rfl, by simp; omega, ?_, fun a h => by rw [supd_ne h]; exact fr a h, fun t ht' => ?_⟩⟩
        · rw [supd_same, List.map_append]
          rfl
        · rcases List.mem_append.mp ht' with z | z
          · exact hm t z
          · rw [List.mem_singleton.mp z]
            exact ⟨honeL, List.mem_of_getElem? ht⟩
      split
      · exact ⟨cdiv_ (by decide) (by decide), cdiv_ (by decide) (by decide), cdiv_ (by decide) (by decide), cdiv_ (by decide) (by decide), by show 4 ≤ sizeLine; omega, ⟨_, items_own hS⟩, by show 3 ≤ sizeLine; omega, leaf _ _ _ _⟩
      · split
        · split
          · exact ⟨cdiv_ (by decide) (by decide), cdiv_ (by decide) (by decide), cdiv_ (by decide) (by decide), cdiv_ (by decide) (by decide), by show 4 ≤ sizeLine; omega, ⟨_, items_own hS⟩, by show 3 ≤ sizeLine; omega, leaf _ _ _ _⟩
          · exact ⟨cdiv_ (by decide) (by decide), cdiv_ (by decide) (by decide), cdiv_ (by decide) (by decide), cdiv_ (by decide) (by decide), by show 4 ≤ sizeLine; omega, ⟨_, items_own hS⟩, by show 3 ≤ sizeLine; omega, leaf _ _ _ _⟩
        · exact ⟨cdiv_ (by decide) (by decide), cdiv_ (by decide) (by decide), cdiv_ (by decide) (by decide), cdiv_ (by decide) (by decide), by show 4 ≤ sizeLine; omega, ⟨_, items_own hS⟩, by show 3 ≤ sizeLine; omega, leaf _ _ _ _⟩
    · rintro ρ S'' ⟨ps, v6, v7, v8, rfl, hl, hS, fr, hm⟩
      rw [rng_ln] at hl
      exact nx _ _ ⟨ps, _, _, _, _, _, rfl, by omega, hS, fr, hm⟩
  · rintro ρ S' ⟨ps, v4, v5, v6, v7, v8, rfl, hl, hS, fr, hm⟩
    rw [enum_ln, List.length_map] at hl
    refine ⟨p, wo S' p, .lst (ps.map encQ), rfl, wo_sub, wo_frz hS, ?_⟩
    have em : ([SV.int 1, SV.int 2] : List SV) = ([1, 2] : List Int).map SV.int := rfl
    have hsub : Sub S (wo S' p) := sub_of fun a ha => by
      have h1 : a ≠ p := fun e => ha (by rw [e]; exact hp)
      rw [wo_ne h1, fr a h1]
    have fil : ∀ c : Quad → Bool, (ps.filterMap fun t => if c t = true then some (rS (rowQ t)) else none).length ≤ sizeLine ∧ fin Q (.lst (ps.filterMap fun t => if c t = true then some (rS (rowQ t)) else none)) (wo S' p) := fun c => by
      have e : (ps.filterMap fun t => if c t = true then some (rS (rowQ t)) else none) = ((ps.filter c).map rowQ).map rS := by
        rw [fm_ite, List.map_map]
        rfl
      rw [e]
      refine ⟨?_, S, _, hsub, .same _, q _ fun r hr x hx => ?_⟩
      · rw [List.length_map, List.length_map]
        have := List.length_filter_le c ps
        omega
      · obtain ⟨t, ht, rfl⟩ := List.mem_map.mp hr
        have := hm t ((List.mem_filter.mp ht).1)
        rcases List.mem_cons.mp hx with e | hx
        · rw [e]; exact this.1
        · rw [List.mem_singleton.mp hx]; exact this.2
    simp! only [inK_tup, wipeR, List.map_cons, List.map_nil]
    rw [em, in_ints]
    simp! only [Bool.false_xor]
    refine ⟨by show 2 ≤ sizeLine; omega, ?_⟩
    split
    · refine lc_on encQ (fun t => if (fun t : Quad => t.2.2.2.2.2) t = true then some (rS (rowQ t)) else none) (by omega) (fun t ht kk kf h1 h2 => ?_) (fil (fun t : Quad => t.2.2.2.2.2))
      obtain ⟨t1, t2, c0, c1, c2, c3⟩ := t
      refine ⟨_, _, .inl rfl, rfl, ?_⟩
      simp! only [at_0, at_1, at_2, at_3, encQ]
      cases c3 <;> first | exact h2 rfl | exact ⟨by show 2 ≤ sizeLine; omega, h1 _ rfl⟩ | skip
    split
    · refine lc_on encQ (fun t => if (fun t : Quad => !t.2.2.1) t = true then some (rS (rowQ t)) else none) (by omega) (fun t ht kk kf h1 h2 => ?_) (fil (fun t : Quad => !t.2.2.1))
      obtain ⟨t1, t2, c0, c1, c2, c3⟩ := t
      refine ⟨_, _, .inl rfl, rfl, ?_⟩
      simp! only [at_0, at_1, at_2, at_3, encQ]
      cases c0 <;> first | exact h2 rfl | exact ⟨by show 2 ≤ sizeLine; omega, h1 _ rfl⟩ | skip
    split
    · refine lc_on encQ (fun t => if (fun t : Quad => t.2.2.2.1) t = true then some (rS (rowQ t)) else none) (by omega) (fun t ht kk kf h1 h2 => ?_) (fil (fun t : Quad => t.2.2.2.1))
      obtain ⟨t1, t2, c0, c1, c2, c3⟩ := t
      refine ⟨_, _, .inl rfl, rfl, ?_⟩
      simp! only [at_0, at_1, at_2, at_3, encQ]
      cases c1 <;> first | exact h2 rfl | exact ⟨by show 2 ≤ sizeLine; omega, h1 _ rfl⟩ | skip
    split
    · refine lc_on encQ (fun t => if (fun t : Quad => !t.2.2.2.2.1) t = true then some (rS (rowQ t)) else none) (by omega) (fun t ht kk kf h1 h2 => ?_) (fil (fun t : Quad => !t.2.2.2.2.1))
      obtain ⟨t1, t2, c0, c1, c2, c3⟩ := t
      refine ⟨_, _, .inl rfl, rfl, ?_⟩
      simp! only [at_0, at_1, at_2, at_3, encQ]
      cases c2 <;> first | exact h2 rfl | exact ⟨by show 2 ≤ sizeLine; omega, h1 _ rfl⟩ | skip
    split
    · refine lc_on encQ (fun t => if (fun t : Quad => t.2.2.1) t = true then some (rS (rowQ t)) else none) (by omega) (fun t ht kk kf h1 h2 => ?_) (fil (fun t : Quad => t.2.2.1))
      obtain ⟨t1, t2, c0, c1, c2, c3⟩ := t
      refine ⟨_, _, .inl rfl, rfl, ?_⟩
      simp! only [at_0, at_1, at_2, at_3, encQ]
      cases c0 <;> first | exact h2 rfl | exact ⟨by show 2 ≤ sizeLine; omega, h1 _ rfl⟩ | skip
    · refine lc_on encQ (fun t => if (fun t : Quad => t.2.2.2.2.1) t = true then some (rS (rowQ t)) else none) (by omega) (fun t ht kk kf h1 h2 => ?_) (fil (fun t : Quad => t.2.2.2.2.1))
      obtain ⟨t1, t2, c0, c1, c2, c3⟩ := t
      refine ⟨_, _, .inl rfl, rfl, ?_⟩
      simp! only [at_0, at_1, at_2, at_3, encQ]
      cases c2 <;> first | exact h2 rfl | exact ⟨by show 2 ≤ sizeLine; omega, h1 _ rfl⟩ | skip
end
end Sy

namespace Sy
open PySem PySem.Spec PyProof.Rows L2
local macro_rules | `(tactic| simp! only [$ls,*]) => `(tactic| try simp only [callX_fold, mnA, mxA, strS, wB, wS, wT, wE, wA, wO, wC, tgS, binS, cmpS, biS, r1, r2, mtS, augS, cstS, splitS, opI_int, add_int, add_str, add_tup, add_ll, newL_f, newL_t, mul_int, ord_int, ord_str, int_int, int_bl, mn_int, mx_int, mn_str, mx_str, tuple_tup, tuple_tuf, tuple_lst, tuple_lstT, sl_lst, sl_tup, sl_scr, sl_str, it_lst, it_str, it_tup, it_tuf, it_enU, it_zU, it_rng1, it_rng2, it_enL, it_enT, it_zL, it_zT, List.set_cons_zero, List.set_cons_succ, List.getElem?_cons_zero, List.getElem?_cons_succ, some_ex, some_ex2, bl_ex, int_ex, eqS_int, idx_lst, idx_tup, idx_tuf, idx_str, len_lst, len_tup, len_tuf, len_scr, at_0, at_1, at_2, true_and, and_true, Int.fmod_eq_emod_of_nonneg, Int.fdiv_eq_ediv_of_nonneg, ne_eq, reduceCtorEq, not_false_eq_true, if_true, if_false, Bool.false_eq_true, decide_eq_true_eq, Int.reduceEq, Int.reduceLE, Int.reduceLT, $ls,*])
theorem drop_at {α : Type} {l : List α} {i : Nat} {x : α} (h : l[i]? = some x) : l.drop i = x :: l.drop (i + 1) := by
  have hi := (List.getElem?_eq_some_iff.mp h).1
  have e := (List.getElem?_eq_some_iff.mp h).2
  rw [List.drop_eq_getElem_cons hi, e]
theorem eqS_any {S : Sto} {x y : Bool} {k : Bool → Prop} (h : ∀ b, k b) : eqS S (.bl x) (.bl y) k := ⟨.bool x, .bool y, .inl rfl, .inl rfl, by simp [SeqAt.shaped, PyData.canLay0, PyData.depth], by simp [SeqAt.shaped, PyData.canLay0, PyData.depth], h _⟩
section
variable {Pr : PySem.Str → Option Def} {g : PySem.Str → Option SV}
theorem webB_okN (pn : Pr "_law_number" = some d_B_law_number) (pm : Pr "_law_names" = some d_B_law_names) (pw : Pr "_law_ways" = some d_B_law_ways) (pb : Pr "_law_web" = some d_B_law_web) {k : Nat} {S : Sto} {ns : List Int} {st m : Int} {Q : SK} (hl : ns.length ≤ 63) (h0 : 0 ≤ st) (m0 : 0 ≤ m) (m1 : m ≤ 14)
    (q : ∀ (L : List PySem.Str) (T : List (List PySem.Str)), WebOk L T m.toNat → ("nowhere" : PySem.Str) ∉ L → Q (webS L T) S) : callS Pr g (k + 3) "_law_web" [.scr (ns.map SV.int), .int st, .int m] S Q := by
  have hz : (20000 : Nat) ≤ sizeLine := by decide
  refine ⟨d_B_law_web, pb, rfl, ?_⟩
  show wB _ _ d_B_law_web.body _ [some (.scr (ns.map SV.int)), some (.int st), some (.int m), none, none, none, none, none, none, none, none, none, none] S
  unfold d_B_law_web
  simp! only []
  refine number_ok pn hl h0 fun hd d0 d1 => ?_
  simp! only []
  refine ⟨by omega, ?_⟩
  rw [Int.fmod_eq_emod_of_nonneg _ (by omega)]
  have c0 := Int.emod_nonneg hd (show m + 1 ≠ 0 by omega)
  have c1 := Int.emod_lt_of_pos hd (show 0 < m + 1 by omega)
  refine namesB_ok pn pm hl (by omega) c0 (by omega) fun L e nd srt okN => ?_
  have ok : ∀ w ∈ L, WOk w := fun w hw => (okN w hw).1
  simp! only []
  refine ⟨cdiv_ (by decide) (by decide), cdiv_ (by decide) (by decide), ?_⟩
  refine waysB_ok pw (by omega) (by omega) fun P hP => ?_
  simp! only []
  refine ⟨by show 0 ≤ sizeLine; omega, fun t ht => ?_⟩
  have k0 := Int.emod_nonneg (hd / 15) (show (5 : Int) ≠ 0 by decide)
  have k1 := Int.emod_lt_of_pos (hd / 15) (show (0 : Int) < 5 by decide)
  generalize hd / 15 % 5 = kd at k0 k1 ⊢
  have hpl := pairs_len L
  have hpl2 : L.length * (L.length - 1) ≤ 14 * 13 := Nat.mul_le_mul (by omega) (by omega)
  have okL : ∀ x ∈ L, PyData.strOk x = true := fun x hx => low_ok (ok x hx).low
  refine for_inv (fun i ρ S' => ∃ (T A : List (List PySem.Str)) (v8 v9 v10 v11 v12 : Option SV), ρ = [some (.scr (ns.map SV.int)), some (.int st), some (.int m), some (.int hd), some (.tuf (wS_ L)), some (.int kd), some (.lst (P.map rS)), some (.own t), v8, v9, v10, v11, v12] ∧ A ++ pairsL (L.drop i) = pairsL L ∧ T.Sublist A ∧ S' t = some (.lst (T.map rS)) ∧ ∀ a, a ≠ t → S' a = S a) ⟨[], [], none, none, none, none, none, rfl, rfl, List.Sublist.refl _, supd_same, fun a h => supd_ne h⟩ ?_ ?_
  · rintro i x ρ S' D hx ⟨T, A, v8, v9, v10, v11, v12, rfl, hA, hT, hS, fr⟩ nx _ _ _
    obtain ⟨y, hy, rfl⟩ := enum_at hx
    rw [List.getElem?_map] at hy
    obtain ⟨one, ho, rfl⟩ := Option.map_eq_some_iff.mp hy
    have hi : i < L.length := (List.getElem?_eq_some_iff.mp ho).1
    have honeL := List.mem_of_getElem? ho
    have hdr := drop_at ho
    refine ⟨_, _, .inl rfl, rfl, ?_⟩
    simp! only [List.map_cons, List.map_nil, List.length_map]
    refine ⟨⟨by omega, by omega, by omega, by omega⟩, ?_⟩
    refine for_inv (fun j ρ S' => ∃ (T : List (List PySem.Str)) (v10 v11 v12 : Option SV), ρ = [some (.scr (ns.map SV.int)), some (.int st), some (.int m), some (.int hd), some (.tuf (wS_ L)), some (.int kd), some (.lst (P.map rS)), some (.own t), some (.int ((0 + i : Nat) : Int)), some (.str one), v10, v11, v12] ∧ T.Sublist (A ++ ((L.drop (i + 1)).take j).map fun b => [one, b]) ∧ S' t = some (.lst (T.map rS)) ∧ ∀ a, a ≠ t → S' a = S a) ⟨T, _, _, _, rfl, by simpa using hT, hS, fr⟩ ?_ ?_
    · rintro j x ρ S'' D' hx' ⟨T, v10, v11, v12, rfl, hT, hS, fr⟩ nx' _ _ _
      obtain ⟨rfl, hj⟩ := rng_at hx'
      have hot : ∃ other, L[i + 1 + j]? = some other := ⟨_, List.getElem?_eq_getElem (by omega)⟩
      obtain ⟨other, hoth⟩ := hot
      have et : atI (wS_ L) (((0 + i : Nat) : Int) + 1 + (j : Int)) = some (.str other) := by
        rw [show ((0 + i : Nat) : Int) + 1 + (j : Int) = ((i + 1 + j : Nat) : Int) by omega]
        exact atI_nat (by rw [List.getElem?_map, hoth]; rfl)
      have htk : (L.drop (i + 1)).take (j + 1) = (L.drop (i + 1)).take j ++ [other] := by
        rw [List.take_add_one, List.getElem?_drop, hoth]
        rfl
      simp! only []
      refine ⟨cmul_r (by decide) (by decide), ?_⟩
      refine number_ok pn hl (by omega) fun nu n0 n1 => ?_
      simp! only []
      have hTl : T.length ≤ 182 := by
        have h1 := hT.length_le
        rw [List.length_append, List.length_map, List.length_take, List.length_drop] at h1
        have h2 := congrArg List.length hA
        rw [List.length_append, hdr] at h2
        rw [show pairsL (one :: L.drop (i + 1)) = (L.drop (i + 1)).map (fun b => [one, b]) ++ pairsL (L.drop (i + 1)) from rfl, List.length_append, List.length_map, List.length_drop] at h2
        omega
      have leaf : ∀ b : Bool, (if b = true then rcvS .append S'' (.own t) ∧ ∃ v, atI (wS_ L) (((0 + i : Nat) : Int) + 1 + (j : Int)) = some v ∧ [SV.str one, v].length ≤ sizeLine ∧ appendS (.own t) (.tup [.str one, v]) S'' fun x S1 => D'.nx [some (.scr (ns.map SV.int)), some (.int st), some (.int m), some (.int hd), some (.tuf (wS_ L)), some (.int kd), some (.lst (P.map rS)), some (.own t), some (.int ((0 + i : Nat) : Int)), some (.str one), some (.int (((0 + i : Nat) : Int) + 1 + (j : Int))), some (.int nu), some (.bl b)] S1 else D'.nx [some (.scr (ns.map SV.int)), some (.int st), some (.int m), some (.int hd), some (.tuf (wS_ L)), some (.int kd), some (.lst (P.map rS)), some (.own t), some (.int ((0 + i : Nat) : Int)), some (.str one), some (.int (((0 + i : Nat) : Int) + 1 + (j : Int))), some (.int nu), some (.bl b)] S'') := fun b => by
        split
        · refine ⟨⟨_, items_own hS⟩, _, et, by show 2 ≤ sizeLine; omega, ?_⟩
          rw [append_own hS]
          refine ⟨by rw [List.length_map]; omega, nx' _ _ ⟨T ++ [[one, other]], _, _, _, rfl, ?_, ?_, fun a h => by rw [supd_ne h]; exact fr a h⟩⟩
          · rw [htk, List.map_append, ← List.append_assoc]
            exact hT.append (List.Sublist.refl _)
          · rw [supd_same, List.map_append]
            rfl
        · refine nx' _ _ ⟨T, _, _, _, rfl, ?_, hS, fr⟩
          rw [htk, List.map_append, ← List.append_assoc]
          exact hT.trans (List.sublist_append_left _ _)
      obtain ⟨v, hv, ev⟩ := at_mem (l := [SV.bl (decide (nu % 4 = 0)), SV.bl (decide (nu % 2 = 0)), SV.bl (decide (0 < nu % 4)), SV.bl false, SV.bl false]) (i := kd) k0 (by show kd < 5; omega)
      have hvb : ∃ b, v = .bl b := by
        simp only [List.mem_cons, List.not_mem_nil, or_false] at hv
        rcases hv with e | e | e | e | e <;> exact ⟨_, e⟩
      obtain ⟨b, rfl⟩ := hvb
      refine ⟨by show 5 ≤ sizeLine; omega, _, ev, ?_⟩
      split
      · refine ⟨_, et, by show 2 ≤ sizeLine; omega, ?_⟩
        show inK false (rS [one, other]) (.lst (P.map rS)) S'' _
        have okO := okL other (List.mem_of_getElem? hoth)
        have ok1 := okL one honeL
        rw [inK_lst, in_rows (fun x hx => by
          rcases List.mem_cons.mp hx with e | hx
          · rw [e]; exact ok1
          · rw [List.mem_singleton.mp hx]; exact okO) (fun r hr x hx => okL x (hP r hr x hx))]
        simp! only [Bool.false_xor]
        split
        · exact eqS_any fun b => leaf _
        · exact eqS_any fun b => leaf _
      · simp! only []
        exact leaf b
    · rintro ρ S'' ⟨T, v10, v11, v12, rfl, hT, hS, fr⟩
      rw [rng_ln] at hT
      have e2 : (L.drop (i + 1)).take ((L.length : Int) - (((0 + i : Nat) : Int) + 1)).toNat = L.drop (i + 1) := List.take_of_length_le (by rw [List.length_drop]; omega)
      rw [e2] at hT
      refine nx _ _ ⟨T, _, _, _, _, _, _, rfl, ?_, hT, hS, fr⟩
      rw [← hA, hdr, List.append_assoc]
      rfl
  · rintro ρ S' ⟨T, A, v8, v9, v10, v11, v12, rfl, hA, hT, hS, fr⟩
    rw [enum_ln, List.length_map, List.drop_length] at hA
    have hT' : T.Sublist (pairsL L) := by
      rw [← hA]
      show T.Sublist (A ++ [])
      rw [List.append_nil]
      exact hT
    refine ⟨t, wo S' t, .lst (T.map rS), rfl, wo_sub, wo_frz hS, ?_⟩
    simp! only []
    refine ⟨by show 2 ≤ sizeLine; omega, S, _, sub_of fun a ha => ?_, .same _, q L T ⟨nd, srt, ok, by omega, fun r hr => hT'.subset hr, hT'.nodup (pairs_nodup nd), (pairs_srt srt nd).sublist hT'⟩ fun h => (okN _ h).2 rfl⟩
    have h1 : a ≠ t := fun e => ha (by rw [e]; exact ht)
    rw [wo_ne h1, fr a h1]
theorem webB_ok (pn : Pr "_law_number" = some d_B_law_number) (pm : Pr "_law_names" = some d_B_law_names) (pw : Pr "_law_ways" = some d_B_law_ways) (pb : Pr "_law_web" = some d_B_law_web) {k : Nat} {S : Sto} {ns : List Int} {st m : Int} {Q : SK} (hl : ns.length ≤ 63) (h0 : 0 ≤ st) (m0 : 0 ≤ m) (m1 : m ≤ 14)
    (q : ∀ (L : List PySem.Str) (T : List (List PySem.Str)), WebOk L T m.toNat → Q (webS L T) S) : callS Pr g (k + 3) "_law_web" [.scr (ns.map SV.int), .int st, .int m] S Q := webB_okN pn pm pw pb hl h0 m0 m1 fun L T W _ => q L T W
end
end Sy

namespace Sy
open PySem PySem.Spec PyProof.Rows L2
/-! ### dicts by texts -/
abbrev kW (ws : List PySem.Str) : List Key := ws.map Sum.inr
abbrev dW (ws : List PySem.Str) (f : PySem.Str → SV) : SO := .dK (kW ws) (ws.map f)
def upd1 (f : PySem.Str → SV) (a : PySem.Str) (v : SV) : PySem.Str → SV := fun x => if x = a then v else f x
theorem get_dW (f : PySem.Str → SV) (a : PySem.Str) : ∀ ws : List PySem.Str, getX (kW ws) (ws.map f) (Sum.inr a) = if a ∈ ws then some (f a) else none
  | [] => rfl
  | b :: ws => by
    show (if (Sum.inr b : Key) = Sum.inr a then some (f b) else getX (kW ws) (ws.map f) (Sum.inr a)) = _
    by_cases h : b = a
    · subst h
      simp
    · have h' : ¬ (Sum.inr b : Key) = Sum.inr a := fun e => h (Sum.inr.inj e)
      have h2 : ¬ a = b := fun e => h e.symm
      rw [if_neg h', get_dW f a ws]
      simp [h2]
theorem put_dW (f : PySem.Str → SV) (a : PySem.Str) (v : SV) (ws : List PySem.Str) : putX (kW ws) (ws.map f) (Sum.inr a) v = (kW (if a ∈ ws then ws else ws ++ [a]), (if a ∈ ws then ws else ws ++ [a]).map (upd1 f a v)) := by
  have hm : (Sum.inr a : Key) ∈ kW ws ↔ a ∈ ws := by
    constructor
    · intro h
      obtain ⟨b, hb, e⟩ := List.mem_map.mp h
      cases e
      exact hb
    · exact fun h => List.mem_map.mpr ⟨a, h, rfl⟩
  unfold putX
  by_cases h : a ∈ ws
  · rw [if_pos (hm.mpr h), if_pos h]
    congr 1
    clear h hm
    induction ws with
    | nil => rfl
    | cons b ws ih =>
      show (if (Sum.inr b : Key) = Sum.inr a then v else f b) :: List.zipWith (fun x y => if x = Sum.inr a then v else y) (kW ws) (ws.map f) = upd1 f a v b :: ws.map (upd1 f a v)
      rw [ih]
      congr 1
      unfold upd1
      by_cases hb : b = a
      · subst hb; simp
      · have h' : ¬ (Sum.inr b : Key) = Sum.inr a := fun e => hb (Sum.inr.inj e)
        rw [if_neg h', if_neg hb]
  · rw [if_neg fun e => h (hm.mp e), if_neg h]
    have e1 : ws.map (upd1 f a v) = ws.map f := List.map_congr_left fun b hb => by
      unfold upd1
      rw [if_neg fun e => h (by rw [← e]; exact hb)]
    rw [List.map_append, e1]
    show (kW ws ++ [Sum.inr a], ws.map f ++ [v]) = (kW (ws ++ [a]), ws.map f ++ [upd1 f a v a])
    rw [show kW (ws ++ [a]) = kW ws ++ [Sum.inr a] from List.map_append]
    unfold upd1
    rw [if_pos rfl]
section
variable {S : Sto} {x : SV} {ws : List PySem.Str} {f : PySem.Str → SV} {a : PySem.Str} {k : SK} {neg : Bool} {p : Addr}
theorem idx_dW (h : dicS S x = some (dW ws f)) (ha : a ∈ ws) : idxS x (.str a) S k = k (f a) S := by
  unfold idxS
  split
  · cases h
  · simp only [h, getD, keyOf, Option.map_some, get_dW, if_pos ha, Option.some.injEq, exists_eq_left']
theorem set_dW {v : SV} {q : Sto → Prop} (h : S p = some (dW ws f)) : setS (.own p) (.str a) v S q = (ws.length < sizeLine ∧ q (supd S p (dW (if a ∈ ws then ws else ws ++ [a]) (upd1 f a v)))) := by
  have hw : dicW S p = some (dW ws f) := by unfold dicW; rw [h]
  unfold setS
  simp only [hw, putD, keyOf, Option.map_some, Option.some.injEq, exists_eq_left', put_dW, lenD, List.length_map]
end
end Sy

namespace Sy
open PySem PySem.Spec PyProof.Rows L2
/-! ### what hangs together -/
inductive Cn (T : List (List PySem.Str)) : PySem.Str → PySem.Str → Prop
  | refl (a) : Cn T a a
  | fwd {a b c} : Cn T a b → [b, c] ∈ T → Cn T a c
  | bwd {a b c} : Cn T a b → [c, b] ∈ T → Cn T a c
namespace Cn
variable {T : List (List PySem.Str)} {a b c : PySem.Str}
theorem trans (h : Cn T a b) (g : Cn T b c) : Cn T a c := by
  induction g with
  | refl => exact h
  | fwd _ t ih => exact ih.fwd t
  | bwd _ t ih => exact ih.bwd t
theorem symm (h : Cn T a b) : Cn T b a := by
  induction h with
  | refl => exact .refl _
  | fwd _ t ih => exact (Cn.bwd (.refl _) t).trans ih
  | bwd _ t ih => exact (Cn.fwd (.refl _) t).trans ih
theorem mono {T' : List (List PySem.Str)} (hs : ∀ r ∈ T, r ∈ T') (h : Cn T a b) : Cn T' a b := by
  induction h with
  | refl => exact .refl _
  | fwd _ t ih => exact ih.fwd (hs _ t)
  | bwd _ t ih => exact ih.bwd (hs _ t)
theorem mem {L : List PySem.Str} (hs : ∀ r ∈ T, ∀ x ∈ r, x ∈ L) (ha : a ∈ L) (h : Cn T a b) : b ∈ L := by
  induction h with
  | refl => exact ha
  | fwd _ t ih => exact hs _ t _ (by simp)
  | bwd _ t ih => exact hs _ t _ (by simp)
/-- one tie more -/
theorem add {x y : PySem.Str} (h : Cn (T ++ [[x, y]]) a b) : Cn T a b ∨ (Cn T a x ∧ Cn T y b) ∨ (Cn T a y ∧ Cn T x b) := by
  induction h with
  | refl => exact .inl (.refl _)
  | fwd _ t ih =>
    rcases List.mem_append.mp t with t | t
    · rcases ih with z | ⟨z1, z2⟩ | ⟨z1, z2⟩
      · exact .inl (z.fwd t)
      · exact .inr (.inl ⟨z1, z2.fwd t⟩)
      · exact .inr (.inr ⟨z1, z2.fwd t⟩)
    · have e := List.mem_singleton.mp t
      have e1 := (List.cons.inj e).1
      have e2 := (List.cons.inj (List.cons.inj e).2).1
      subst e1 e2
      rcases ih with z | ⟨z1, z2⟩ | ⟨z1, z2⟩
      · exact .inr (.inl ⟨z, .refl _⟩)
      · exact .inr (.inl ⟨z1, .refl _⟩)
      · exact .inl z1
  | bwd _ t ih =>
    rcases List.mem_append.mp t with t | t
    · rcases ih with z | ⟨z1, z2⟩ | ⟨z1, z2⟩
      · exact .inl (z.bwd t)
      · exact .inr (.inl ⟨z1, z2.bwd t⟩)
      · exact .inr (.inr ⟨z1, z2.bwd t⟩)
    · have e := List.mem_singleton.mp t
      have e1 := (List.cons.inj e).1
      have e2 := (List.cons.inj (List.cons.inj e).2).1
      subst e1 e2
      rcases ih with z | ⟨z1, z2⟩ | ⟨z1, z2⟩
      · exact .inr (.inr ⟨z, .refl _⟩)
      · exact .inl z1
      · exact .inr (.inr ⟨z1, .refl _⟩)
end Cn
open Classical in
noncomputable def cnB (T : List (List PySem.Str)) (a b : PySem.Str) : Bool := decide (Cn T a b)
theorem cnB_iff {T : List (List PySem.Str)} {a b : PySem.Str} : cnB T a b = true ↔ Cn T a b := by
  unfold cnB
  exact @decide_eq_true_iff _ (Classical.propDecidable _)
/-- the part of a name; the first names; the parts -/
noncomputable def partL (L : List PySem.Str) (T : List (List PySem.Str)) (a : PySem.Str) : List PySem.Str := L.filter (cnB T a)
noncomputable def headB (L : List PySem.Str) (T : List (List PySem.Str)) (a : PySem.Str) : Bool := L.all fun b => !cnB T a b || wle a b
noncomputable def partsL (L : List PySem.Str) (T : List (List PySem.Str)) : List (List PySem.Str) := (L.filter (headB L T)).map (partL L T)
theorem headB_iff {L : List PySem.Str} {T : List (List PySem.Str)} {a : PySem.Str} : headB L T a = true ↔ ∀ b ∈ L, Cn T a b → wle a b = true := by
  unfold headB
  rw [List.all_eq_true]
  refine ⟨fun h b hb hc => ?_, fun h b hb => ?_⟩
  · have := h b hb
    rw [cnB_iff.mpr hc] at this
    simpa using this
  · cases hc : cnB T a b with
    | false => rfl
    | true => simpa using h b hb (cnB_iff.mp hc)
end Sy

namespace Sy
open PySem PySem.Spec PyProof.Rows L2
local macro_rules | `(tactic| simp! only [$ls,*]) => `(tactic| try simp only [callX_fold, mnA, mxA, strS, wB, wS, wT, wE, wA, wO, wC, tgS, binS, cmpS, biS, r1, r2, mtS, augS, cstS, splitS, opI_int, add_int, add_str, add_tup, add_ll, newL_f, newL_t, mul_int, ord_int, ord_str, int_int, int_bl, mn_int, mx_int, mn_str, mx_str, tuple_tup, tuple_tuf, tuple_lst, tuple_lstT, sl_lst, sl_tup, sl_scr, sl_str, it_lst, it_str, it_tup, it_tuf, it_enU, it_zU, it_rng1, it_rng2, it_enL, it_enT, it_zL, it_zT, List.set_cons_zero, List.set_cons_succ, List.getElem?_cons_zero, List.getElem?_cons_succ, some_ex, some_ex2, bl_ex, int_ex, eqS_int, idx_lst, idx_tup, idx_tuf, idx_str, len_lst, len_tup, len_tuf, len_scr, at_0, at_1, at_2, true_and, and_true, Int.fmod_eq_emod_of_nonneg, Int.fdiv_eq_ediv_of_nonneg, ne_eq, reduceCtorEq, not_false_eq_true, if_true, if_false, Bool.false_eq_true, decide_eq_true_eq, Int.reduceEq, Int.reduceLE, Int.reduceLT, $ls,*])
abbrev uS (r : List PySem.Str) : SV := .tuf (wS_ r)
section
variable {Pr : PySem.Str → Option Def} {g : PySem.Str → Option SV}
end
end Sy

namespace Sy
open PySem PySem.Spec PyProof.Rows L2
local macro_rules | `(tactic| simp! only [$ls,*]) => `(tactic| try simp only [callX_fold, mnA, mxA, strS, wB, wS, wT, wE, wA, wO, wC, tgS, binS, cmpS, biS, r1, r2, mtS, augS, cstS, splitS, opI_int, add_int, add_str, add_tup, add_ll, newL_f, newL_t, mul_int, ord_int, ord_str, int_int, int_bl, mn_int, mx_int, mn_str, mx_str, tuple_tup, tuple_tuf, tuple_lst, tuple_lstT, sl_lst, sl_tup, sl_scr, sl_str, it_lst, it_str, it_tup, it_tuf, it_enU, it_zU, it_rng1, it_rng2, it_enL, it_enT, it_zL, it_zT, List.set_cons_zero, List.set_cons_succ, List.getElem?_cons_zero, List.getElem?_cons_succ, some_ex, some_ex2, bl_ex, int_ex, eqS_int, idx_lst, idx_tup, idx_tuf, idx_str, len_lst, len_tup, len_tuf, len_scr, at_0, at_1, at_2, true_and, and_true, Int.fmod_eq_emod_of_nonneg, Int.fdiv_eq_ediv_of_nonneg, ne_eq, reduceCtorEq, not_false_eq_true, if_true, if_false, Bool.false_eq_true, decide_eq_true_eq, Int.reduceEq, Int.reduceLE, Int.reduceLT, $ls,*])
def mnWb (a b : PySem.Str) : PySem.Str := if wk b < wk a then b else a
theorem mnWb_le (a b : PySem.Str) : wle (mnWb a b) a = true ∧ wle (mnWb a b) b = true := by
  unfold mnWb
  split
  · rename_i h
    exact ⟨decide_eq_true (List.le_of_lt h), wle_refl b⟩
  · rename_i h
    exact ⟨wle_refl a, decide_eq_true (List.not_lt.mp h)⟩
theorem mnWb_or (a b : PySem.Str) : mnWb a b = a ∨ mnWb a b = b := by
  unfold mnWb
  split
  · exact .inr rfl
  · exact .inl rfl
/-- each name's group: the first of those that hang together -/
structure Grp (L : List PySem.Str) (T : List (List PySem.Str)) (σ : PySem.Str → PySem.Str) : Prop where
  mem : ∀ a ∈ L, σ a ∈ L
  cn : ∀ a ∈ L, Cn T a (σ a)
  le : ∀ a ∈ L, wle (σ a) a = true
  eq : ∀ a ∈ L, ∀ b ∈ L, Cn T a b → σ a = σ b
def stepG (σ : PySem.Str → PySem.Str) (b c : PySem.Str) : PySem.Str → PySem.Str := fun x => if σ x = σ b ∨ σ x = σ c then mnWb (σ b) (σ c) else σ x
theorem Grp.zero (L : List PySem.Str) : Grp L [] id where
  mem := fun a h => h
  cn := fun a _ => .refl a
  le := fun a _ => wle_refl a
  eq := fun a _ b _ h => by
    induction h with
    | refl => rfl
    | fwd _ t _ => cases t
    | bwd _ t _ => cases t
theorem Grp.step {L : List PySem.Str} {T : List (List PySem.Str)} {σ : PySem.Str → PySem.Str} (G : Grp L T σ) {b c : PySem.Str} (hb : b ∈ L) (hc : c ∈ L) : Grp L (T ++ [[b, c]]) (stepG σ b c) := by
  have mo : ∀ {x y}, Cn T x y → Cn (T ++ [[b, c]]) x y := fun h => h.mono fun r hr => List.mem_append_left _ hr
  have tie : Cn (T ++ [[b, c]]) b c := (Cn.refl b).fwd (by simp)
  have mn := mnWb_le (σ b) (σ c)
  refine ⟨fun a ha => ?_, fun a ha => ?_, fun a ha => ?_, fun a ha x hx h => ?_⟩
  · unfold stepG
    split
    · rcases mnWb_or (σ b) (σ c) with e | e <;> rw [e]
      · exact G.mem b hb
      · exact G.mem c hc
    · exact G.mem a ha
  · unfold stepG
    split
    · rename_i h
      have hab : Cn (T ++ [[b, c]]) a (σ b) ∧ Cn (T ++ [[b, c]]) a (σ c) := by
        have h1 := mo (G.cn a ha)
        have h2 := mo (G.cn b hb)
        have h3 := mo (G.cn c hc)
        rcases h with h | h
        · rw [h] at h1
          exact ⟨h1, ((h1.trans h2.symm).trans tie).trans h3⟩
        · rw [h] at h1
          exact ⟨((h1.trans h3.symm).trans tie.symm).trans h2, h1⟩
      rcases mnWb_or (σ b) (σ c) with e | e <;> rw [e]
      · exact hab.1
      · exact hab.2
    · exact mo (G.cn a ha)
  · unfold stepG
    split
    · rename_i h
      rcases h with h | h
      · exact wle_trans _ _ _ mn.1 (by rw [← h]; exact G.le a ha)
      · exact wle_trans _ _ _ mn.2 (by rw [← h]; exact G.le a ha)
    · exact G.le a ha
  · have e1 : σ b = σ b ∨ σ b = σ c := .inl rfl
    rcases h.add with z | ⟨z1, z2⟩ | ⟨z1, z2⟩
    · have := G.eq a ha x hx z
      unfold stepG
      rw [this]
    · have h1 := G.eq a ha b hb z1
      have h2 := G.eq c hc x hx z2
      unfold stepG
      rw [if_pos (.inl h1), if_pos (.inr h2.symm)]
    · have h1 := G.eq a ha c hc z1
      have h2 := G.eq b hb x hx z2
      unfold stepG
      rw [if_pos (.inr h1), if_pos (.inl h2.symm)]
theorem Grp.head {L : List PySem.Str} {T : List (List PySem.Str)} {σ : PySem.Str → PySem.Str} (G : Grp L T σ) {a : PySem.Str} (ha : a ∈ L) : headB L T a = decide (σ a = a) := by
  rw [Bool.eq_iff_iff, headB_iff, decide_eq_true_eq]
  constructor
  · intro h
    exact wle_anti (G.le a ha) (h _ (G.mem a ha) (G.cn a ha))
  · intro h b hb hc
    have e := G.eq a ha b hb hc
    rw [h] at e
    rw [e]
    exact G.le b hb
theorem Grp.part {L : List PySem.Str} {T : List (List PySem.Str)} {σ : PySem.Str → PySem.Str} (G : Grp L T σ) {a : PySem.Str} (ha : a ∈ L) (h : σ a = a) : partL L T a = L.filter fun x => decide (σ x = a) := by
  unfold partL
  refine List.filter_congr fun x hx => ?_
  rw [Bool.eq_iff_iff, cnB_iff, decide_eq_true_eq]
  constructor
  · intro hc
    rw [← G.eq a ha x hx hc, h]
  · intro e
    have := G.cn x hx
    rw [e] at this
    exact this.symm
section
variable {Pr : PySem.Str → Option Def} {g : PySem.Str → Option SV}
end
end Sy

namespace Sy
open PySem PySem.Spec PyProof.Rows L2
/-! ### rows of rows compared -/
abbrev rowD (r : List PySem.Str) : PyData := .tuple (r.map PyData.str)
theorem eqvAll_rows : ∀ A B : List (List PySem.Str), PyData.eqvAll (A.map rowD) (B.map rowD) = decide (A = B)
  | [], [] => by simp [PyData.eqvAll]
  | [], _ :: _ => by simp [PyData.eqvAll]
  | _ :: _, [] => by simp [PyData.eqvAll]
  | x :: a, y :: b => by
    show PyData.eqvAll (rowD x :: a.map rowD) (rowD y :: b.map rowD) = _
    rw [PyData.eqvAll, eqvAll_rows a b, PyData.eqv, eqvAll_words]
    by_cases h : x = y <;> by_cases g : a = b <;> simp [h, g]
theorem toD_uS (r : List PySem.Str) : toD (uS r) = some (rowD r) := by
  show (toDs (wS_ r)).map PyData.tuple = _
  rw [toDs_words]
  rfl
section
variable {S : Sto} {x y : SV} {A B : List (List PySem.Str)} {q : Bool → Prop}
theorem eqS_ll (hx : toDS S x = some (.list (A.map rowD))) (hy : toDS S y = some (.list (B.map rowD))) (okA : ∀ r ∈ A, ∀ x ∈ r, PyData.strOk x = true) (okB : ∀ r ∈ B, ∀ x ∈ r, PyData.strOk x = true) : eqS S x y q = q (decide (A = B)) := by
  rw [eqS_of hx hy (shaped_rows okA) (shaped_rows okB), PyData.eqv, eqvAll_rows]
end
end Sy

namespace Sy
def d_is_of : Def := ⟨["web", "kind", "row"], ["web", "kind", "row", "names", "ties", "wanted", "there", "tie", "pair", "one", "other"],
 (.cons (.asg (.many [(3, "names"), (4, "ties")]) (.var 0 "web"))
 (.cons (.ifs (.cmp .Eq (.var 1 "kind") (.cst (.str "cover"))) (.cons (.ret (.bi .all false (.cons (.lc false [("one", 9), ("other", 10)] (.or (.cmp .In (.var 9 "one") (.var 2 "row")) (.cmp .In (.var 10 "other") (.var 2 "row"))) (.many [(9, "one"), (10, "other")]) .seq (.cons (.var 4 "ties") .nil) .none) .nil)))
 .nil) .nil)
 (.cons (.asg (.one 5 "wanted") (.cmp .Eq (.var 1 "kind") (.cst (.str "tied"))))
 (.cons (.asg (.one 6 "there") (.dnew true))
 (.cons (.for_ (.one 7 "tie") .seq (.cons (.var 4 "ties") .nil) (.cons (.setIx (.var 6 "there") (.var 7 "tie") (.cst (.bool true)))
 .nil))
 (.cons (.frz 6)
 (.cons (.ret (.bi .all false (.cons (.lc false [("pair", 8)] (.cmp .Eq (.cmp .In (.var 8 "pair") (.var 6 "there")) (.var 5 "wanted")) (.one 8 "pair") .seq (.cons (.call "pairs_of" (.cons (.var 2 "row") .nil)) .nil) .none) .nil)))
 .nil)))))))⟩

def d_with_one : Def := ⟨["row", "name"], ["row", "name"],
 (.cons (.ret (.bi .tuple false (.cons (.bi .sorted false (.cons (.bin .Add false (.var 0 "row") (.tup (.cons (.var 1 "name") .nil))) .nil)) .nil)))
 .nil)⟩

def d_without_one : Def := ⟨["row", "name"], ["row", "name", "other"],
 (.cons (.ret (.bi .tuple false (.cons (.lc false [("other", 2)] (.var 2 "other") (.one 2 "other") .seq (.cons (.var 0 "row") .nil) (.some (.cmp .NotEq (.var 2 "other") (.var 1 "name")))) .nil)))
 .nil)⟩

def d_is_greatest : Def := ⟨["web", "kind", "row"], ["web", "kind", "row", "name"],
 (.cons (.ifs (.not (.call "is_of" (.cons (.var 0 "web") (.cons (.var 1 "kind") (.cons (.var 2 "row") .nil))))) (.cons (.ret (.cst (.bool false)))
 .nil) .nil)
 (.cons (.ifs (.cmp .Eq (.var 1 "kind") (.cst (.str "cover"))) (.cons (.ret (.not (.bi .any false (.cons (.lc false [("name", 3)] (.call "is_of" (.cons (.var 0 "web") (.cons (.var 1 "kind") (.cons (.call "without_one" (.cons (.var 2 "row") (.cons (.var 3 "name") .nil))) .nil)))) (.one 3 "name") .seq (.cons (.var 2 "row") .nil) .none) .nil))))
 .nil) .nil)
 (.cons (.ret (.not (.bi .any false (.cons (.lc false [("name", 3)] (.call "is_of" (.cons (.var 0 "web") (.cons (.var 1 "kind") (.cons (.call "with_one" (.cons (.var 2 "row") (.cons (.var 3 "name") .nil))) .nil)))) (.one 3 "name") .seq (.cons (.idx (.var 0 "web") (.cst (.int 0))) .nil) (.some (.cmp .NotIn (.var 3 "name") (.var 2 "row")))) .nil))))
 .nil)))⟩

end Sy

namespace Sy
open PySem PySem.Spec PyProof.Rows L2
local macro_rules | `(tactic| simp! only [$ls,*]) => `(tactic| try simp only [callX_fold, mnA, mxA, strS, wB, wS, wT, wE, wA, wO, wC, tgS, binS, cmpS, biS, r1, r2, mtS, augS, cstS, splitS, opI_int, add_int, add_str, add_tup, add_ll, newL_f, newL_t, mul_int, ord_int, ord_str, int_int, int_bl, mn_int, mx_int, mn_str, mx_str, tuple_tup, tuple_tuf, tuple_lst, tuple_lstT, sl_lst, sl_tup, sl_scr, sl_str, it_lst, it_str, it_tup, it_tuf, it_enU, it_zU, it_rng1, it_rng2, it_enL, it_enT, it_zL, it_zT, List.set_cons_zero, List.set_cons_succ, List.getElem?_cons_zero, List.getElem?_cons_succ, some_ex, some_ex2, bl_ex, int_ex, eqS_int, idx_lst, idx_tup, idx_tuf, idx_str, len_lst, len_tup, len_tuf, len_scr, at_0, at_1, at_2, true_and, and_true, Int.fmod_eq_emod_of_nonneg, Int.fdiv_eq_ediv_of_nonneg, ne_eq, reduceCtorEq, not_false_eq_true, if_true, if_false, Bool.false_eq_true, decide_eq_true_eq, Int.reduceEq, Int.reduceLE, Int.reduceLT, $ls,*])
/-! ### rows of a kind -/
/-- is the row R of the kind (T the ties) -/
def kindB (T : List (List PySem.Str)) (kind : PySem.Str) (R : List PySem.Str) : Bool :=
  if kind = "cover" then T.all fun r => r.any fun a => decide (a ∈ R) else (pairsL R).all fun p => decide (decide (p ∈ T) = decide (kind = "tied"))
theorem eqS_bl {S : Sto} {a b : Bool} {q : Bool → Prop} : eqS S (.bl a) (.bl b) q = q (decide (a = b)) := by
  rw [eqS_of (d := .bool a) (e := .bool b) rfl rfl (by simp [SeqAt.shaped, PyData.canLay0, PyData.depth]) (by simp [SeqAt.shaped, PyData.canLay0, PyData.depth])]
  cases a <;> cases b <;> rfl
theorem allB_map {α : Type} (f : α → Bool) : ∀ l : List α, allB (l.map fun x => SV.bl (f x)) = some (l.map f)
  | [] => rfl
  | x :: l => by
    show (allB (l.map fun x => SV.bl (f x))).map (fun r => f x :: r) = _
    rw [allB_map f l]
    rfl
theorem all_bls {α : Type} {S : Sto} {k : SK} (f : α → Bool) (l : List α) : allS (.lst (l.map fun x => SV.bl (f x))) S k = k (.bl (l.all f)) S := by
  unfold allS
  refine propext ⟨?_, fun h => ⟨_, _, rfl, allB_map f l, ?_⟩⟩
  · rintro ⟨l', bs, e1, e2, h⟩
    cases e1
    rw [allB_map] at e2
    cases e2
    rw [List.all_map] at h
    exact h
  · rw [List.all_map]
    exact h
theorem any_bls {α : Type} {S : Sto} {k : SK} (f : α → Bool) (l : List α) : anyS (.lst (l.map fun x => SV.bl (f x))) S k = k (.bl (l.any f)) S := by
  unfold anyS
  refine propext ⟨?_, fun h => ⟨_, _, rfl, allB_map f l, ?_⟩⟩
  · rintro ⟨l', bs, e1, e2, h⟩
    cases e1
    rw [allB_map] at e2
    cases e2
    rw [List.any_map] at h
    exact h
  · rw [List.any_map]
    exact h
def kx (r : List PySem.Str) : List Key := r.map Sum.inr
theorem kx_inj {r s : List PySem.Str} (h : kx r = kx s) : r = s := by
  unfold kx at h
  exact (List.map_inj_right (fun a b e => Sum.inr.inj e)).mp h
theorem tKey_row (r : List PySem.Str) : tKey (rS r) = some (kx r) := by
  show keysOf (wS_ r) = _
  induction r with
  | nil => rfl
  | cons a r ih =>
    show (keyOf (.str a)).bind (fun k => (keysOf (wS_ r)).map fun q => k :: q) = _
    rw [ih]
    rfl
theorem getX_some {κ : Type} [DecidableEq κ] : ∀ {ks : List κ} {l : List SV} {k : κ}, ks.length = l.length → ((getX ks l k).isSome = true ↔ k ∈ ks)
  | [], [], k, _ => by simp [getX]
  | a :: ks, [], k, h => by cases h
  | [], _ :: _, k, h => by cases h
  | a :: ks, x :: l, k, h => by
    unfold getX
    by_cases e : a = k
    · simp [e]
    · have e' : ¬ k = a := fun z => e z.symm
      rw [if_neg e, getX_some (by simpa using h)]
      simp [e']
theorem putX_mem {κ : Type} [DecidableEq κ] {ks : List κ} {l : List SV} {k : κ} {v : SV} (h : ks.length = l.length) : (putX ks l k v).1.length = (putX ks l k v).2.length ∧ (putX ks l k v).1.length ≤ ks.length + 1 ∧ ∀ x, x ∈ (putX ks l k v).1 ↔ x ∈ ks ∨ x = k := by
  unfold putX
  by_cases hk : k ∈ ks
  · rw [if_pos hk]
    refine ⟨by simp [h], by simp, fun x => ⟨.inl, ?_⟩⟩
    rintro (z | rfl)
    · exact z
    · exact hk
  · rw [if_neg hk]
    refine ⟨by simp [h], by simp, fun x => by simp⟩
section
variable {Pr : PySem.Str → Option Def} {g : PySem.Str → Option SV}
theorem in_dT {S : Sto} {ks : List (List Key)} {l : List SV} {r : List PySem.Str} {neg b : Bool} {k : SK} (hl : ks.length = l.length) (hb : b = true ↔ kx r ∈ ks) : inK neg (rS r) (.dT ks l) S k = k (.bl (xor neg b)) S := by
  unfold inK
  simp only [dicS, getD, tKey_row, Option.map_some, Option.some.injEq, exists_eq_left']
  have e : (getX ks l (kx r)).isSome = b := by
    have := getX_some (k := kx r) hl
    cases h : (getX ks l (kx r)).isSome <;> cases b <;> simp_all
  rw [e]
theorem set_dT {S : Sto} {p : Addr} {ks : List (List Key)} {l : List SV} {r : List PySem.Str} {v : SV} {q : Sto → Prop} (h : S p = some (.dT ks l)) : setS (.own p) (rS r) v S q = (ks.length < sizeLine ∧ q (supd S p (.dT (putX ks l (kx r) v).1 (putX ks l (kx r) v).2))) := by
  unfold setS
  simp only [dicW, h, putD, tKey_row, Option.map_some, Option.some.injEq, exists_and_left, exists_eq_left', lenD]
theorem pairs_okT (pp : Pr "pairs_of" = some d_pairs_of) {k : Nat} {S : Sto} {L : List PySem.Str} {Q : SK} (hL : L.length ≤ 100) (q : Q (.lst ((pairsL L).map rS)) S) : callS Pr g (k + 1) "pairs_of" [.tup (wS_ L)] S Q := by
  have big : (20000 : Nat) ≤ sizeLine := by decide
  have hpl : (pairsL L).length ≤ 9900 := by
    have h4 := pairs_len L
    have h6 : L.length * (L.length - 1) ≤ 100 * 99 := Nat.mul_le_mul hL (by omega)
    omega
  refine ⟨d_pairs_of, pp, rfl, ?_⟩
  show wB _ _ d_pairs_of.body _ [some (.tup (wS_ L)), none, none, none, none] S
  unfold d_pairs_of
  simp! only []
  refine ⟨by decide, fun f hf => for_inv (fun i ρ S' => ∃ (pre : List (List PySem.Str)) (v2 v3 : Option SV), ρ = [some (.tup (wS_ L)), some (.own f), v2, v3, none] ∧ S' f = some (.lst (pre.map rS)) ∧ pre ++ pairsL (L.drop i) = pairsL L ∧ ∀ a, a ≠ f → S' a = S a)
    ⟨[], none, none, rfl, supd_same, rfl, fun a h => supd_ne h⟩ ?_ ?_⟩
  · rintro i x ρ S1 D hx ⟨pre, v2, v3, rfl, h1, h2, fr⟩ nx _ _ _
    obtain ⟨y, hy, rfl⟩ := enum_at hx
    rw [List.getElem?_map] at hy
    obtain ⟨a, ha, rfl⟩ := Option.map_eq_some_iff.mp hy
    refine ⟨_, _, .inl rfl, rfl, ?_⟩
    simp! only []
    rw [Nat.zero_add]
    refine ⟨⟨_, items_own h1⟩, ?_⟩
    simp! only []
    rw [cut_from, ← List.map_drop]
    refine lc_pure (fun x => some (.tup [.str a, x])) (by rw [List.length_map, List.length_drop]; omega) (fun x _ k k' h _ => ?_) ?_
    · simp! only [wipeR, List.map_cons, List.map_nil]
      exact ⟨by show 2 ≤ sizeLine; omega, h _ rfl⟩
    have ef : ((L.drop (i + 1)).map SV.str).filterMap (fun x => some (SV.tup [.str a, x])) = ((L.drop (i + 1)).map fun b => [a, b]).map rS := by
      rw [List.filterMap_eq_map', List.map_map, List.map_map]
      rfl
    rw [ef, extend_own h1]
    have hd : L.drop i = a :: L.drop (i + 1) := by
      have hi := (List.getElem?_eq_some_iff.mp ha).1
      rw [List.drop_eq_getElem_cons hi]
      rw [(List.getElem?_eq_some_iff.mp ha).2]
    have e : pre ++ ((L.drop (i + 1)).map fun b => [a, b]) ++ pairsL (L.drop (i + 1)) = pairsL L := by
      rw [← h2, hd, List.append_assoc]
      rfl
    have hl := congrArg List.length e
    rw [List.length_append, List.length_append] at hl
    refine ⟨?_, ?_, nx _ _ ⟨pre ++ (L.drop (i + 1)).map fun b => [a, b], _, _, rfl, ?_, e, fun a h => by rw [supd_ne h]; exact fr a h⟩⟩
    · rw [List.length_map]
      omega
    · rw [List.length_map, List.length_map]
      omega
    · rw [supd_same, ← List.map_append]
  · rintro ρ S1 ⟨pre, v2, v3, rfl, h1, h2, fr⟩
    have e : pre = pairsL L := by
      rw [enum_ln, List.length_map, List.drop_length] at h2
      simpa [pairsL] using h2
    subst e
    refine ⟨f, wo S1 f, _, rfl, wo_sub, wo_frz h1, _, rfl, fin_same ?_⟩
    rw [wo_back hf fr]
    exact q
theorem pairs_okX (pp : Pr "pairs_of" = some d_pairs_of) {k : Nat} {S : Sto} {R : List PySem.Str} {x : SV} {Q : SK} (hx : x = .tup (wS_ R) ∨ x = .tuf (wS_ R)) (hR : R.length ≤ 100) (q : Q (.lst ((pairsL R).map rS)) S) : callS Pr g (k + 1) "pairs_of" [x] S Q := by
  rcases hx with rfl | rfl
  · exact pairs_okT pp hR q
  · exact pairs_ok pp hR q
theorem seq_row {S : Sto} {x : SV} {R : List PySem.Str} (hx : x = .tup (wS_ R) ∨ x = .tuf (wS_ R)) : seqOf S x = some (wS_ R) := by
  rcases hx with rfl | rfl <;> rfl
theorem inK_row {S : Sto} {neg : Bool} {x : SV} {R : List PySem.Str} {a : PySem.Str} {k : SK} (hx : x = .tup (wS_ R) ∨ x = .tuf (wS_ R)) (ha : PyData.strOk a = true) (hR : ∀ y ∈ R, PyData.strOk y = true) : inK neg (.str a) x S k = k (.bl (xor neg (decide (a ∈ R)))) S := by
  rw [inK_of (fun s e => by rcases hx with rfl | rfl <;> cases e) (seq_row hx), in_words ha hR]
theorem is_of_ok (pp : Pr "pairs_of" = some d_pairs_of) (pi : Pr "is_of" = some d_is_of) {k : Nat} {S : Sto} {L R : List PySem.Str} {T : List (List PySem.Str)} {x : SV} {kind : PySem.Str} {Q : SK} (hx : x = .tup (wS_ R) ∨ x = .tuf (wS_ R)) (hkind : PyData.strOk kind = true)
    (hR : R.length ≤ 100) (okR : ∀ a ∈ R, PyData.strOk a = true) (okT : ∀ r ∈ T, ∃ a b, r = [a, b] ∧ PyData.strOk a = true ∧ PyData.strOk b = true) (hT : T.length ≤ 9900) (q : Q (.bl (kindB T kind R)) S) : callS Pr g (k + 2) "is_of" [webS L T, .str kind, x] S Q := by
  have big : (20000 : Nat) ≤ sizeLine := by decide
  refine ⟨d_is_of, pi, rfl, ?_⟩
  show wB _ _ d_is_of.body _ [some (webS L T), some (.str kind), some x, none, none, none, none, none, none, none, none] S
  unfold d_is_of
  simp! only []
  refine ⟨_, _, .inl rfl, rfl, ?_⟩
  simp! only [eqS_str hkind (show PyData.strOk "cover" = true by decide +kernel), eqS_str hkind (show PyData.strOk "tied" = true by decide +kernel)]
  by_cases hc : kind = "cover"
  · rw [if_pos hc]
    refine lc_on rS (fun r => some (.bl (r.any fun a => decide (a ∈ R)))) (by omega) (fun r hr kk k' h1 _ => ?_) ?_
    · obtain ⟨a, b, rfl, oa, ob⟩ := okT r hr
      refine ⟨_, _, .inl rfl, rfl, ?_⟩
      simp! only [wipeR, List.map_cons, List.map_nil, inK_row hx oa okR, inK_row hx ob okR, Bool.false_xor]
      have h2 := h1 _ rfl
      simp only [List.any_cons, List.any_nil, Bool.or_false] at h2
      by_cases ha : a ∈ R
      · simpa [ha] using h2
      · simpa [ha] using h2
    · rw [List.filterMap_eq_map']
      simp! only [List.length_map, all_bls]
      refine ⟨by omega, fin_same ?_⟩
      unfold kindB at q
      rw [if_pos hc] at q
      exact q
  · rw [if_neg hc]
    intro p hp
    refine for_inv (fun i ρ S' => ∃ (ks : List (List Key)) (vs : List SV) (v7 : Option SV), ρ = [some (webS L T), some (.str kind), some x, some (.tuf (wS_ L)), some (.tuf (T.map rS)), some (.bl (decide (kind = "tied"))), some (.own p), v7, none, none, none] ∧ S' p = some (.dT ks vs) ∧ ks.length = vs.length ∧ ks.length ≤ i ∧ (∀ z, z ∈ ks ↔ ∃ r ∈ T.take i, z = kx r) ∧ ∀ a, a ≠ p → S' a = S a)
      ⟨[], [], none, rfl, supd_same, rfl, Nat.le_refl _, fun z => by simp, fun a h => supd_ne h⟩ ?_ ?_
    · rintro i y ρ S1 D hy ⟨ks, vs, v7, rfl, hD, hl, hli, hm, fr⟩ nx _ _ _
      rw [List.getElem?_map] at hy
      obtain ⟨r, hr, rfl⟩ := Option.map_eq_some_iff.mp hy
      have hi := (List.getElem?_eq_some_iff.mp hr).1
      simp! only [set_dT hD]
      obtain ⟨m1, m2, m3⟩ := putX_mem (k := kx r) (v := .bl true) hl
      refine ⟨by omega, nx _ _ ⟨_, _, _, rfl, supd_same, m1, by omega, fun z => ?_, fun a h => by rw [supd_ne h]; exact fr a h⟩⟩
      rw [m3, hm, List.take_add_one, hr]
      constructor
      · rintro (⟨r', h1, h2⟩ | rfl)
        · exact ⟨r', List.mem_append_left _ h1, h2⟩
        · exact ⟨r, List.mem_append_right _ (by simp), rfl⟩
      · rintro ⟨r', h1, h2⟩
        rcases List.mem_append.mp h1 with z | z
        · exact .inl ⟨r', z, h2⟩
        · simp at z
          rw [z] at h2
          exact .inr h2
    · rintro ρ S1 ⟨ks, vs, v7, rfl, hD, hl, hli, hm, fr⟩
      refine ⟨p, wo S1 p, .dT ks vs, rfl, wo_sub, .dT hD wo_same, ?_⟩
      rw [wo_back hp fr]
      simp! only []
      refine pairs_okX pp hx hR ?_
      have hpl : (pairsL R).length ≤ 9900 := by
        have h4 := pairs_len R
        have h6 : R.length * (R.length - 1) ≤ 100 * 99 := Nat.mul_le_mul hR (by omega)
        omega
      simp! only []
      refine lc_on rS (fun r => some (.bl (decide (decide (r ∈ T) = decide (kind = "tied"))))) (by omega) (fun r hr kk k' h1 _ => ?_) ?_
      · have hb : decide (r ∈ T) = true ↔ kx r ∈ ks := by
          rw [decide_eq_true_eq, hm, List.length_map, List.take_length]
          exact ⟨fun h => ⟨r, h, rfl⟩, fun ⟨r', h, e⟩ => by rw [kx_inj e]; exact h⟩
        simp! only [wipeR, List.map_cons, List.map_nil, in_dT hl hb, eqS_bl, Bool.false_xor]
        exact h1 _ rfl
      · rw [List.filterMap_eq_map']
        simp! only [List.length_map, all_bls]
        refine ⟨by omega, fin_same ?_⟩
        unfold kindB at q
        rw [if_neg hc] at q
        exact q
end
end Sy

namespace Sy
open PySem PySem.Spec PyProof.Rows L2
def rowOf (L : List PySem.Str) (row : Nat) : List PySem.Str := (List.range L.length).filterMap fun i => if row.testBit i = true then L[i]? else none
abbrev Up (L : List PySem.Str) : Prop := L.Pairwise fun a b => wk a < wk b
theorem Up.at {L : List PySem.Str} (h : Up L) {i j : Nat} {a b : PySem.Str} (ha : L[i]? = some a) (hb : L[j]? = some b) (hij : i < j) : wk a < wk b := by
  obtain ⟨h1, e1⟩ := List.getElem?_eq_some_iff.mp ha
  obtain ⟨h2, e2⟩ := List.getElem?_eq_some_iff.mp hb
  have q := List.pairwise_iff_getElem.mp h i j h1 h2 hij
  rw [e1, e2] at q
  exact q
theorem pairs_at' : ∀ {L : List PySem.Str} {r : List PySem.Str}, r ∈ pairsL L → ∃ (i j : Nat) (a b : PySem.Str), i < j ∧ L[i]? = some a ∧ L[j]? = some b ∧ r = [a, b]
  | [], r, h => by cases h
  | x :: L, r, h => by
    rcases List.mem_append.mp h with z | z
    · obtain ⟨b, hb, rfl⟩ := List.mem_map.mp z
      obtain ⟨j, hj⟩ := List.mem_iff_getElem?.mp hb
      exact ⟨0, j + 1, x, b, by omega, rfl, by simpa using hj, rfl⟩
    · obtain ⟨i, j, a, b, h1, h2, h3, h4⟩ := pairs_at' z
      exact ⟨i + 1, j + 1, a, b, by omega, by simpa using h2, by simpa using h3, h4⟩
theorem Up.pairs {R : List PySem.Str} (h : Up R) {p : List PySem.Str} : p ∈ pairsL R ↔ ∃ a b, a ∈ R ∧ b ∈ R ∧ wk a < wk b ∧ p = [a, b] := by
  constructor
  · intro hp
    obtain ⟨i, j, a, b, hij, ha, hb, e⟩ := pairs_at' hp
    exact ⟨a, b, List.mem_of_getElem? ha, List.mem_of_getElem? hb, h.at ha hb hij, e⟩
  · rintro ⟨a, b, ha, hb, hlt, rfl⟩
    obtain ⟨i, hi⟩ := List.mem_iff_getElem?.mp ha
    obtain ⟨j, hj⟩ := List.mem_iff_getElem?.mp hb
    rcases Nat.lt_trichotomy i j with z | z | z
    · exact pairs_mem z hi hj
    · subst z
      rw [hi] at hj
      cases hj
      exact absurd hlt (List.lt_irrefl _)
    · exact absurd (List.lt_asymm hlt (h.at hj hi z)) (fun q => q)
theorem up_of {L : List PySem.Str} (hs : L.Pairwise fun a b => wle a b = true) (hn : L.Nodup) : Up L := by
  refine (hs.and hn).imp fun {a b} h => ?_
  have q : wk a ≤ wk b := of_decide_eq_true h.1
  rcases List.le_iff_lt_or_eq.mp q with z | z
  · exact z
  · exact absurd (wk_inj z) h.2
theorem Up.row {L : List PySem.Str} (h : Up L) (row : Nat) : Up (rowOf L row) := by
  unfold Up rowOf
  refine List.pairwise_filterMap.mpr ?_
  refine List.Pairwise.imp (fun {i j} hij => ?_) (List.pairwise_lt_range (n := L.length))
  intro a ha b hb
  split at ha
  · split at hb
    · exact h.at ha hb hij
    · cases hb
  · cases ha
end Sy

namespace Sy
open PySem PySem.Spec PyProof.Rows L2
theorem Up.nodup {A : List PySem.Str} (h : Up A) : A.Nodup := h.imp fun {a b} q e => by
  rw [e] at q
  exact List.lt_irrefl _ q
theorem up_ext {A B : List PySem.Str} (hA : Up A) (hB : Up B) (h : ∀ x, x ∈ A ↔ x ∈ B) : A = B :=
  List.Perm.eq_of_pairwise (le := fun a b => wk a < wk b) (fun a b _ _ h1 h2 => absurd h2 (List.lt_asymm h1)) hA hB ((List.perm_ext_iff_of_nodup hA.nodup hB.nodup).mpr h)
def insW (R : List PySem.Str) (a : PySem.Str) : List PySem.Str := (R ++ [a]).mergeSort wle
theorem mem_insW {R : List PySem.Str} {a x : PySem.Str} : x ∈ insW R a ↔ x ∈ R ∨ x = a := by
  unfold insW
  rw [List.mem_mergeSort, List.mem_append, List.mem_singleton]
theorem len_insW (R : List PySem.Str) (a : PySem.Str) : (insW R a).length = R.length + 1 := by
  unfold insW
  rw [List.length_mergeSort, List.length_append, List.length_singleton]
theorem up_sort {R : List PySem.Str} (h : R.Nodup) : Up (R.mergeSort wle) :=
  up_of (List.pairwise_mergeSort wle_trans wle_total _) ((List.mergeSort_perm _ _).nodup_iff.mpr h)
theorem up_insW {R : List PySem.Str} {a : PySem.Str} (h : Up R) (ha : a ∉ R) : Up (insW R a) := by
  refine up_sort ?_
  rw [List.nodup_append]
  refine ⟨h.nodup, by simp, fun x hx y hy e => ?_⟩
  rw [List.mem_singleton] at hy
  rw [e, hy] at hx
  exact ha hx
theorem up_filter {R : List PySem.Str} (h : Up R) (p : PySem.Str → Bool) : Up (R.filter p) := List.Pairwise.filter p h
/-- R without a -/
def remW (R : List PySem.Str) (a : PySem.Str) : List PySem.Str := R.filter fun x => decide (x ≠ a)
theorem mem_remW {R : List PySem.Str} {a x : PySem.Str} : x ∈ remW R a ↔ x ∈ R ∧ x ≠ a := by
  unfold remW
  rw [List.mem_filter, decide_eq_true_eq]
theorem up_remW {R : List PySem.Str} {a : PySem.Str} (h : Up R) : Up (remW R a) := up_filter h _
theorem kind_down {T : List (List PySem.Str)} {kind : PySem.Str} {R R' : List PySem.Str} (hk : ¬ kind = "cover") (h : Up R) (h' : Up R') (sub : ∀ a ∈ R, a ∈ R') (t : kindB T kind R' = true) : kindB T kind R = true := by
  unfold kindB at t ⊢
  rw [if_neg hk, List.all_eq_true] at t ⊢
  intro p hp
  obtain ⟨a, b, ha, hb, hlt, e⟩ := h.pairs.mp hp
  exact t p (h'.pairs.mpr ⟨a, b, sub a ha, sub b hb, hlt, e⟩)
theorem kind_up {T : List (List PySem.Str)} {R R' : List PySem.Str} (sub : ∀ a ∈ R, a ∈ R') (t : kindB T "cover" R = true) : kindB T "cover" R' = true := by
  unfold kindB at t ⊢
  rw [if_pos rfl, List.all_eq_true] at t ⊢
  intro r hr
  have q := t r hr
  rw [List.any_eq_true] at q ⊢
  obtain ⟨a, ha, hm⟩ := q
  exact ⟨a, ha, by rw [decide_eq_true_eq] at hm ⊢; exact sub a hm⟩
/-- greatest (of covers least) -/
def mostB (L : List PySem.Str) (T : List (List PySem.Str)) (kind : PySem.Str) (R : List PySem.Str) : Bool :=
  kindB T kind R && (if kind = "cover" then R.all fun a => !kindB T kind (remW R a) else L.all fun a => decide (a ∈ R) || !kindB T kind (insW R a))
end Sy

namespace Sy
open PySem PySem.Spec PyProof.Rows L2
local macro_rules | `(tactic| simp! only [$ls,*]) => `(tactic| try simp only [callX_fold, mnA, mxA, strS, wB, wS, wT, wE, wA, wO, wC, tgS, binS, cmpS, biS, r1, r2, mtS, augS, cstS, splitS, opI_int, add_int, add_str, add_tup, add_ll, newL_f, newL_t, mul_int, ord_int, ord_str, int_int, int_bl, mn_int, mx_int, mn_str, mx_str, tuple_tup, tuple_tuf, tuple_lst, tuple_lstT, sl_lst, sl_tup, sl_scr, sl_str, it_lst, it_str, it_tup, it_tuf, it_enU, it_zU, it_rng1, it_rng2, it_enL, it_enT, it_zL, it_zT, List.set_cons_zero, List.set_cons_succ, List.getElem?_cons_zero, List.getElem?_cons_succ, some_ex, some_ex2, bl_ex, int_ex, eqS_int, idx_lst, idx_tup, idx_tuf, idx_str, len_lst, len_tup, len_tuf, len_scr, at_0, at_1, at_2, true_and, and_true, Int.fmod_eq_emod_of_nonneg, Int.fdiv_eq_ediv_of_nonneg, ne_eq, reduceCtorEq, not_false_eq_true, if_true, if_false, Bool.false_eq_true, decide_eq_true_eq, Int.reduceEq, Int.reduceLE, Int.reduceLT, $ls,*])
theorem fm_str (P : PySem.Str → Bool) : ∀ l : List PySem.Str, l.filterMap (fun b => if P b = true then some (SV.str b) else none) = wS_ (l.filter P)
  | [] => rfl
  | y :: l => by
    rw [List.filterMap_cons, List.filter_cons]
    cases h : P y with
    | true => simp [fm_str P l]
    | false => simp [fm_str P l]
theorem fm_bl (P f : PySem.Str → Bool) : ∀ l : List PySem.Str, l.filterMap (fun b => if P b = true then some (SV.bl (f b)) else none) = (l.filter P).map fun b => SV.bl (f b)
  | [] => rfl
  | y :: l => by
    rw [List.filterMap_cons, List.filter_cons]
    cases h : P y with
    | true => simp [fm_bl P f l]
    | false => simp [fm_bl P f l]
theorem it_row {S : Sto} {x : SV} {R : List PySem.Str} {q : List SV → Prop} (hx : x = .tup (wS_ R) ∨ x = .tuf (wS_ R)) : itS .seq [x] S q = q (wS_ R) := by
  rcases hx with rfl | rfl <;> rfl
section
variable {Pr : PySem.Str → Option Def} {g : PySem.Str → Option SV}
theorem add_row {own : Bool} {S : Sto} {x : SV} {R : List PySem.Str} {a : PySem.Str} {k : SK} (hx : x = .tup (wS_ R) ∨ x = .tuf (wS_ R)) (hR : R.length < sizeLine) (q : k (.tup (wS_ (R ++ [a]))) S) : opAdd own x (.tup [.str a]) S k := by
  have e : wS_ (R ++ [a]) = wS_ R ++ [.str a] := List.map_append
  rw [e] at q
  rcases hx with rfl | rfl
  · rw [add_tup]
    exact ⟨by rw [List.length_map]; show R.length + 1 ≤ sizeLine; omega, q⟩
  · unfold opAdd
    refine ⟨_, _, rfl, rfl, by rw [List.length_map]; show R.length + 1 ≤ sizeLine; omega, q, fun e => (by cases e), fun e => ?_⟩
    rw [e] at q
    exact q
theorem with_one_ok (pw : Pr "with_one" = some d_with_one) {k : Nat} {S : Sto} {R : List PySem.Str} {a : PySem.Str} {x : SV} {Q : SK} (hx : x = .tup (wS_ R) ∨ x = .tuf (wS_ R)) (hR : R.length ≤ 1000) (q : Q (.tuf (wS_ (insW R a))) S) : callS Pr g (k + 1) "with_one" [x, .str a] S Q := by
  have big : (20000 : Nat) ≤ sizeLine := by decide
  refine ⟨d_with_one, pw, rfl, ?_⟩
  show wB _ _ d_with_one.body _ [some x, some (.str a)] S
  unfold d_with_one
  simp! only []
  refine ⟨by show 1 ≤ sizeLine; omega, add_row hx (by omega) ?_⟩
  rw [sorted_words rfl]
  simp! only [List.length_map]
  have h := len_insW R a
  unfold insW at h
  refine ⟨by omega, fin_same q⟩
theorem without_one_ok (pw : Pr "without_one" = some d_without_one) {k : Nat} {S : Sto} {R : List PySem.Str} {a : PySem.Str} {x : SV} {Q : SK} (hx : x = .tup (wS_ R) ∨ x = .tuf (wS_ R)) (hR : R.length ≤ 1000) (ok : ∀ b ∈ R, PyData.strOk b = true) (oka : PyData.strOk a = true) (q : Q (.tuf (wS_ (remW R a))) S) : callS Pr g (k + 1) "without_one" [x, .str a] S Q := by
  have big : (20000 : Nat) ≤ sizeLine := by decide
  refine ⟨d_without_one, pw, rfl, ?_⟩
  show wB _ _ d_without_one.body _ [some x, some (.str a), none] S
  unfold d_without_one
  simp! only [it_row hx]
  refine lc_on SV.str (fun b => if decide (b ≠ a) = true then some (.str b) else none) (by omega) (fun b hb kk kf h1 h2 => ?_) ?_
  · simp! only [wipeR, List.map_cons, List.map_nil, eqS_str (ok b hb) oka]
    by_cases h : b = a
    · simp only [h, decide_true, Bool.not_true, Bool.false_eq_true, if_false]
      exact h2 (by simp [h])
    · simp only [h, decide_false, Bool.not_false, if_true]
      exact h1 _ (by simp [h])
  · rw [fm_str]
    simp! only [List.length_map]
    exact ⟨Nat.le_trans (List.length_filter_le _ _) (by omega), fin_same q⟩
theorem is_greatest_ok (pp : Pr "pairs_of" = some d_pairs_of) (pi : Pr "is_of" = some d_is_of) (pw : Pr "with_one" = some d_with_one) (po : Pr "without_one" = some d_without_one) (pg : Pr "is_greatest" = some d_is_greatest) {k : Nat} {S : Sto} {L R : List PySem.Str} {T : List (List PySem.Str)} {x : SV} {kind : PySem.Str} {Q : SK} (hx : x = .tup (wS_ R) ∨ x = .tuf (wS_ R)) (hkind : PyData.strOk kind = true)
    (hL : L.length ≤ 50) (okL : ∀ a ∈ L, PyData.strOk a = true) (hR : R.length ≤ 50) (okR : ∀ a ∈ R, PyData.strOk a = true) (okT : ∀ r ∈ T, ∃ a b, r = [a, b] ∧ PyData.strOk a = true ∧ PyData.strOk b = true) (hT : T.length ≤ 9900) (q : Q (.bl (mostB L T kind R)) S) : callS Pr g (k + 3) "is_greatest" [webS L T, .str kind, x] S Q := by
  have big : (20000 : Nat) ≤ sizeLine := by decide
  refine ⟨d_is_greatest, pg, rfl, ?_⟩
  show wB _ _ d_is_greatest.body _ [some (webS L T), some (.str kind), some x, none] S
  unfold d_is_greatest
  simp! only []
  refine is_of_ok (k := k) pp pi hx hkind (by omega) okR okT hT ?_
  unfold mostB at q
  cases hb : kindB T kind R with
  | false =>
    rw [hb] at q
    simp! only [Bool.not_false]
    exact fin_same q
  | true =>
    rw [hb, Bool.true_and] at q
    simp! only [Bool.not_true, eqS_str hkind (show PyData.strOk "cover" = true by decide +kernel)]
    by_cases hc : kind = "cover"
    · rw [if_pos hc] at q
      simp! only [hc, it_row hx]
      refine lc_on SV.str (fun a => some (.bl (kindB T kind (remW R a)))) (by omega) (fun a ha kk kf h1 h2 => ?_) ?_
      · simp! only [wipeR, List.map_cons, List.map_nil]
        refine without_one_ok (k := k + 1) po hx (by omega) okR (okR a ha) ?_
        have hl : (remW R a).length ≤ R.length := List.length_filter_le _ _
        refine is_of_ok (k := k) pp pi (.inr rfl) (by decide +kernel) (by omega) (fun b hb => okR b (mem_remW.mp hb).1) okT hT ?_
        rw [← hc]
        exact h1 _ rfl
      · rw [List.filterMap_eq_map']
        simp! only [List.length_map, any_bls]
        refine ⟨by omega, fin_same ?_⟩
        rw [← List.not_any_eq_all_not] at q
        exact q
    · rw [if_neg hc] at q
      simp! only [hc]
      refine lc_on SV.str (fun a => if decide (a ∉ R) = true then some (.bl (kindB T kind (insW R a))) else none) (by omega) (fun a ha kk kf h1 h2 => ?_) ?_
      · simp! only [wipeR, List.map_cons, List.map_nil, inK_row hx (okL a ha) okR]
        by_cases h : a ∈ R
        · simp only [h, decide_true, Bool.xor_true, Bool.not_true, Bool.false_eq_true, if_false]
          exact h2 (by simp [h])
        · simp only [h, decide_false, Bool.xor_false, if_true]
          refine with_one_ok (k := k + 1) pw hx (by omega) ?_
          refine is_of_ok (k := k) pp pi (.inr rfl) hkind (by rw [len_insW]; omega) (fun b hb => ?_) okT hT ?_
          · rcases mem_insW.mp hb with z | z
            · exact okR b z
            · rw [z]; exact okL a ha
          · exact h1 _ (by simp [h])
      · have e : (L.filterMap fun a => if decide (a ∉ R) = true then some (SV.bl (kindB T kind (insW R a))) else none) = (L.filter fun a => decide (a ∉ R)).map fun a => SV.bl (kindB T kind (insW R a)) := fm_bl _ _ L
        rw [e]
        simp! only [List.length_map, any_bls]
        have := List.length_filter_le (fun a => decide (a ∉ R)) L
        refine ⟨by omega, fin_same ?_⟩
        have e2 : (!(L.filter fun a => decide (a ∉ R)).any fun a => kindB T kind (insW R a)) = L.all fun a => decide (a ∈ R) || !kindB T kind (insW R a) := by
          rw [List.any_filter, List.not_any_eq_all_not]
          congr 1
          funext a
          by_cases h : a ∈ R <;> simp [h]
        rw [e2]
        exact q
end
end Sy

namespace Sy
def d_filled : Def := ⟨["web", "kind", "row"], ["web", "kind", "row", "found", "name"],
 (.cons (.ifs (.not (.call "is_of" (.cons (.var 0 "web") (.cons (.var 1 "kind") (.cons (.var 2 "row") .nil))))) (.cons .never
 .nil) .nil)
 (.cons (.asg (.one 3 "found") (.var 2 "row"))
 (.cons (.ifs (.cmp .Eq (.var 1 "kind") (.cst (.str "cover"))) (.cons (.for_ (.one 4 "name") .seq (.cons (.rev false (.var 2 "row")) .nil) (.cons (.ifs (.call "is_of" (.cons (.var 0 "web") (.cons (.var 1 "kind") (.cons (.call "without_one" (.cons (.var 3 "found") (.cons (.var 4 "name") .nil))) .nil)))) (.cons (.asg (.one 3 "found") (.call "without_one" (.cons (.var 3 "found") (.cons (.var 4 "name") .nil))))
 .nil) .nil)
 .nil))
 (.cons (.ret (.var 3 "found"))
 .nil)) .nil)
 (.cons (.for_ (.one 4 "name") .seq (.cons (.idx (.var 0 "web") (.cst (.int 0))) .nil) (.cons (.ifs (.and (.cmp .NotIn (.var 4 "name") (.var 3 "found")) (.call "is_of" (.cons (.var 0 "web") (.cons (.var 1 "kind") (.cons (.call "with_one" (.cons (.var 3 "found") (.cons (.var 4 "name") .nil))) .nil))))) (.cons (.asg (.one 3 "found") (.call "with_one" (.cons (.var 3 "found") (.cons (.var 4 "name") .nil))))
 .nil) .nil)
 .nil))
 (.cons (.ret (.var 3 "found"))
 .nil)))))⟩

end Sy

namespace Sy
open PySem PySem.Spec PyProof.Rows L2
local macro_rules | `(tactic| simp! only [$ls,*]) => `(tactic| try simp only [callX_fold, mnA, mxA, strS, wB, wS, wT, wE, wA, wO, wC, tgS, binS, cmpS, biS, r1, r2, mtS, augS, cstS, splitS, opI_int, add_int, add_str, add_tup, add_ll, newL_f, newL_t, mul_int, ord_int, ord_str, int_int, int_bl, mn_int, mx_int, mn_str, mx_str, tuple_tup, tuple_tuf, tuple_lst, tuple_lstT, sl_lst, sl_tup, sl_scr, sl_str, it_lst, it_str, it_tup, it_tuf, it_enU, it_zU, it_rng1, it_rng2, it_enL, it_enT, it_zL, it_zT, List.set_cons_zero, List.set_cons_succ, List.getElem?_cons_zero, List.getElem?_cons_succ, some_ex, some_ex2, bl_ex, int_ex, eqS_int, idx_lst, idx_tup, idx_tuf, idx_str, len_lst, len_tup, len_tuf, len_scr, at_0, at_1, at_2, true_and, and_true, Int.fmod_eq_emod_of_nonneg, Int.fdiv_eq_ediv_of_nonneg, ne_eq, reduceCtorEq, not_false_eq_true, if_true, if_false, Bool.false_eq_true, decide_eq_true_eq, Int.reduceEq, Int.reduceLE, Int.reduceLT, $ls,*])
abbrev Isr (x : SV) (R : List PySem.Str) : Prop := x = .tup (wS_ R) ∨ x = .tuf (wS_ R)
/-- the names of L that are not in R -/
def resL (L R : List PySem.Str) : List PySem.Str := L.filter fun a => decide (a ∉ R)
def stepN (P : List PySem.Str → Bool) (f : List PySem.Str) (a : PySem.Str) : List PySem.Str := if decide (a ∉ f) && P (insW f a) then insW f a else f
def stepC (P : List PySem.Str → Bool) (f : List PySem.Str) (a : PySem.Str) : List PySem.Str := if P (remW f a) then remW f a else f
def fillL (L : List PySem.Str) (T : List (List PySem.Str)) (kind : PySem.Str) (R : List PySem.Str) : List PySem.Str :=
  if kind = "cover" then R.reverse.foldl (stepC (kindB T kind)) R else L.foldl (stepN (kindB T kind)) R
theorem cut_to {α : Type} (l : List α) (i : Nat) : cutL l none (some (i : Int)) = l.take i := by
  unfold cutL
  have e : HT.sIx l.length l.length (some (i : Int)) = min i l.length := HT.sIx_nat _ _ i
  have e2 : HT.sIx l.length 0 none = 0 := rfl
  rw [e, e2, List.drop_zero, Nat.sub_zero]
  rcases Nat.lt_or_ge i l.length with h | h
  · rw [Nat.min_eq_left (by omega)]
  · rw [Nat.min_eq_right h, List.take_length, List.take_of_length_le h]
/-- a part of a row, and is a name in it -/
theorem sl_row {S : Sto} {x : SV} {R : List PySem.Str} {lo hi : Option Int} {k : SK} (hx : Isr x R) (q : ∀ y, Isr y (cutL R lo hi) → k y S) : slS false x lo hi S k := by
  rcases hx with rfl | rfl
  · show k (.tup (cutL (wS_ R) lo hi)) S
    rw [cut_map]
    exact q _ (.inl rfl)
  · show k (.tup (cutL (wS_ R) lo hi)) S ∧ (cutL (wS_ R) lo hi = wS_ R → k (.tuf (wS_ R)) S)
    rw [cut_map]
    refine ⟨q _ (.inl rfl), fun e => ?_⟩
    rw [← e]
    exact q _ (.inr rfl)
section
variable {Pr : PySem.Str → Option Def} {g : PySem.Str → Option SV}
/-- tuple([name for name in web[0] if name not in x]) -/
theorem lc_rest {S : Sto} {L R : List PySem.Str} {ρ : Ro} {ec : SE} {cc : Ro → Sto → (Bool → Sto → Prop) → Prop} {t : MT} {Q : List SV → Sto → Prop} (hL : L.length ≤ 1000)
    (step : ∀ a ∈ L, ∀ (k : SK) (k' : Sto → Prop), (a ∉ R → k (.str a) S) → (a ∈ R → k' S) → tgS t S (.str a) ρ fun ρ' => cc ρ' S fun b S' => if b = true then ec ρ' S' k else k' S')
    (q : Q (wS_ (resL L R)) S) : lcRun t ρ cc ec (wS_ L) [] S Q := by
  have big : (20000 : Nat) ≤ sizeLine := by decide
  refine lc_on SV.str (fun a => if decide (a ∉ R) = true then some (.str a) else none) (by omega) (fun a ha k k' h1 h2 => step a ha k k' (fun h => h1 _ (by rw [if_pos (decide_eq_true h)])) (fun h => h2 (by rw [if_neg (by simpa using h)]))) ?_
  rw [fm_str]
  exact q
theorem res_len (L R : List PySem.Str) : (resL L R).length ≤ L.length := List.length_filter_le _ _
theorem mem_resL {L R : List PySem.Str} {a : PySem.Str} : a ∈ resL L R ↔ a ∈ L ∧ a ∉ R := by
  unfold resL
  rw [List.mem_filter, decide_eq_true_eq]
theorem filled_ok (pp : Pr "pairs_of" = some d_pairs_of) (pi : Pr "is_of" = some d_is_of) (pw : Pr "with_one" = some d_with_one) (po : Pr "without_one" = some d_without_one) (pf : Pr "filled" = some d_filled) {k : Nat} {S : Sto} {L R : List PySem.Str} {T : List (List PySem.Str)} {x : SV} {kind : PySem.Str} {Q : SK} (hx : Isr x R) (hkind : PyData.strOk kind = true)
    (hL : L.length ≤ 50) (okL : ∀ a ∈ L, PyData.strOk a = true) (hR : R.length ≤ 40) (okR : ∀ a ∈ R, PyData.strOk a = true) (okT : ∀ r ∈ T, ∃ a b, r = [a, b] ∧ PyData.strOk a = true ∧ PyData.strOk b = true) (hT : T.length ≤ 9900) (his : kindB T kind R = true) (q : ∀ y, Isr y (fillL L T kind R) → Q y S) : callS Pr g (k + 3) "filled" [webS L T, .str kind, x] S Q := by
  have big : (20000 : Nat) ≤ sizeLine := by decide
  refine ⟨d_filled, pf, rfl, ?_⟩
  show wB _ _ d_filled.body _ [some (webS L T), some (.str kind), some x, none, none] S
  unfold d_filled
  simp! only []
  refine is_of_ok (k := k) pp pi hx hkind (by omega) okR okT hT ?_
  rw [his]
  unfold fillL at q
  simp! only [Bool.not_true, eqS_str hkind (show PyData.strOk "cover" = true by decide +kernel)]
  by_cases hc : kind = "cover"
  · rw [if_pos hc] at q ⊢
    have er : ∀ q : SK, revS false x S q = q (.tup (wS_ R.reverse)) S := fun q => by
      rcases hx with rfl | rfl
      · show q (.tup (wS_ R).reverse) S = _
        rw [← List.map_reverse]
      · show q (.tup (wS_ R).reverse) S = _
        rw [← List.map_reverse]
    simp! only [er]
    refine for_inv (fun i ρ S' => S' = S ∧ ∃ (y : SV) (f : List PySem.Str) (v4 : Option SV), ρ = [some (webS L T), some (.str kind), some x, some y, v4] ∧ Isr y f ∧ f = (R.reverse.take i).foldl (stepC (kindB T kind)) R ∧ f.length ≤ 40 ∧ ∀ a ∈ f, PyData.strOk a = true) ⟨rfl, x, R, _, rfl, hx, rfl, hR, okR⟩ ?_ ?_
    · rintro i z ρ S1 D hz ⟨rfl, y, f, v4, rfl, hy, hf, hfl, okf⟩ nx _ _ _
      rw [List.getElem?_map] at hz
      obtain ⟨a, ha, rfl⟩ := Option.map_eq_some_iff.mp hz
      have oka := okR a (List.mem_reverse.mp (List.mem_of_getElem? ha))
      have et : (R.reverse.take (i + 1)).foldl (stepC (kindB T kind)) R = stepC (kindB T kind) f a := by
        rw [List.take_add_one, ha, hf]
        simp
      have hrl : (remW f a).length ≤ f.length := List.length_filter_le _ _
      have okr : ∀ b ∈ remW f a, PyData.strOk b = true := fun b hb => okf b (mem_remW.mp hb).1
      simp! only []
      refine without_one_ok (k := k + 1) po hy (by omega) okf oka ?_
      refine is_of_ok (k := k) pp pi (.inr rfl) hkind (by omega) okr okT hT ?_
      simp! only []
      cases hb : kindB T kind (remW f a) with
      | true =>
        rw [if_pos rfl]
        refine without_one_ok (k := k + 1) po hy (by omega) okf oka ?_
        refine nx _ _ ⟨rfl, _, _, _, rfl, .inr rfl, ?_, by omega, okr⟩
        rw [et]; unfold stepC; rw [hb, if_pos rfl]
      | false =>
        rw [if_neg (by decide)]
        refine nx _ _ ⟨rfl, _, _, _, rfl, hy, ?_, hfl, okf⟩
        rw [et]; unfold stepC; rw [hb, if_neg (by decide)]
    · rintro ρ S1 ⟨rfl, y, f, v4, rfl, hy, hf, hfl, okf⟩
      rw [List.length_map, List.take_length] at hf
      simp! only []
      refine fin_same (q y ?_)
      rw [← hf]
      exact hy
  · rw [if_neg hc] at q ⊢
    simp! only []
    refine for_inv (fun i ρ S' => S' = S ∧ ∃ (y : SV) (f : List PySem.Str) (v4 : Option SV), ρ = [some (webS L T), some (.str kind), some x, some y, v4] ∧ Isr y f ∧ f = (L.take i).foldl (stepN (kindB T kind)) R ∧ f.length ≤ 40 + i ∧ ∀ a ∈ f, PyData.strOk a = true) ⟨rfl, x, R, _, rfl, hx, rfl, hR, okR⟩ ?_ ?_
    · rintro i z ρ S1 D hz ⟨rfl, y, f, v4, rfl, hy, hf, hfl, okf⟩ nx _ _ _
      rw [List.getElem?_map] at hz
      obtain ⟨a, ha, rfl⟩ := Option.map_eq_some_iff.mp hz
      have hi := (List.getElem?_eq_some_iff.mp ha).1
      have oka := okL a (List.mem_of_getElem? ha)
      have et : (L.take (i + 1)).foldl (stepN (kindB T kind)) R = stepN (kindB T kind) f a := by
        rw [List.take_add_one, ha, hf]
        simp
      have hrl := len_insW f a
      have okr : ∀ b ∈ insW f a, PyData.strOk b = true := fun b hb => by
        rcases mem_insW.mp hb with z | z
        · exact okf b z
        · rw [z]; exact oka
      simp! only [inK_row hy oka okf]
      by_cases hm : a ∈ f
      · simp only [hm, decide_true, Bool.xor_true, Bool.not_true, Bool.false_eq_true, if_false]
        refine nx _ _ ⟨rfl, _, _, _, rfl, hy, ?_, by omega, okf⟩
        rw [et]
        simp [stepN, hm]
      · simp only [hm, decide_false, Bool.xor_false, if_true]
        refine with_one_ok (k := k + 1) pw hy (by omega) ?_
        refine is_of_ok (k := k) pp pi (.inr rfl) hkind (by omega) okr okT hT ?_
        simp! only []
        cases hb : kindB T kind (insW f a) with
        | true =>
          rw [if_pos rfl]
          refine with_one_ok (k := k + 1) pw hy (by omega) ?_
          refine nx _ _ ⟨rfl, _, _, _, rfl, .inr rfl, ?_, by omega, okr⟩
          rw [et]
          simp [stepN, hb, hm]
        | false =>
          rw [if_neg (by decide)]
          refine nx _ _ ⟨rfl, _, _, _, rfl, hy, ?_, by omega, okf⟩
          rw [et]
          simp [stepN, hb]
    · rintro ρ S1 ⟨rfl, y, f, v4, rfl, hy, hf, hfl, okf⟩
      rw [List.length_map, List.take_length] at hf
      simp! only []
      refine fin_same (q y ?_)
      rw [← hf]
      exact hy
end
end Sy

namespace Sy
open PySem PySem.Spec PyProof.Rows L2
section
variable {L R : List PySem.Str} {T : List (List PySem.Str)}
theorem kind_apart : kindB T "apart" R = true ↔ ∀ p ∈ pairsL R, p ∉ T := by
  unfold kindB
  have n : ¬ (("apart" : PySem.Str) = "cover") := by decide +kernel
  have n2 : decide (("apart" : PySem.Str) = "tied") = false := by decide +kernel
  rw [if_neg n, List.all_eq_true, n2]
  simp
theorem kind_cover : kindB T "cover" R = true ↔ ∀ r ∈ T, ∃ a ∈ r, a ∈ R := by
  unfold kindB
  rw [if_pos rfl, List.all_eq_true]
  simp only [List.any_eq_true, decide_eq_true_eq]
theorem rest_kind (hL : Up L) (hR : Up R) (sub : ∀ a ∈ R, a ∈ L) (hT : ∀ r ∈ T, r ∈ pairsL L) : kindB T "apart" R = kindB T "cover" (resL L R) := by
  rw [Bool.eq_iff_iff, kind_apart, kind_cover]
  constructor
  · intro h r hr
    obtain ⟨a, b, ha, hb, hlt, rfl⟩ := hL.pairs.mp (hT r hr)
    by_cases za : a ∈ R
    · by_cases zb : b ∈ R
      · exact absurd hr (h _ (hR.pairs.mpr ⟨a, b, za, zb, hlt, rfl⟩))
      · exact ⟨b, by simp, mem_resL.mpr ⟨hb, zb⟩⟩
    · exact ⟨a, by simp, mem_resL.mpr ⟨ha, za⟩⟩
  · intro h p hp hpT
    obtain ⟨a, b, ha, hb, hlt, rfl⟩ := hR.pairs.mp hp
    obtain ⟨c, hc, hcr⟩ := h _ hpT
    have n := (mem_resL.mp hcr).2
    rcases List.mem_cons.mp hc with e | hc
    · rw [e] at n; exact n ha
    · rw [List.mem_singleton.mp hc] at n; exact n hb
theorem up_res (hL : Up L) : Up (resL L R) := up_filter hL _
theorem ins_sub {a : PySem.Str} (ha : a ∈ L) (sub : ∀ a ∈ R, a ∈ L) : ∀ b ∈ insW R a, b ∈ L := fun b hb => by
  rcases mem_insW.mp hb with z | z
  · exact sub b z
  · rw [z]; exact ha
theorem nAC : ¬ (("apart" : PySem.Str) = "cover") := by decide +kernel
theorem all_cg {α : Type} {f g : α → Bool} {l : List α} (h : ∀ a ∈ l, f a = g a) : l.all f = l.all g := by
  rw [Bool.eq_iff_iff, List.all_eq_true, List.all_eq_true]
  exact ⟨fun q a ha => by rw [← h a ha]; exact q a ha, fun q a ha => by rw [h a ha]; exact q a ha⟩
theorem rem_res (hL : Up L) (hR : Up R) {a : PySem.Str} (h : a ∉ R) : remW (resL L R) a = resL L (insW R a) := by
  refine up_ext (up_remW (up_res hL)) (up_res hL) fun x => ?_
  rw [mem_remW, mem_resL, mem_resL, mem_insW]
  constructor
  · rintro ⟨⟨h1, h2⟩, h3⟩
    exact ⟨h1, fun z => z.elim h2 h3⟩
  · rintro ⟨h1, h2⟩
    exact ⟨⟨h1, fun z => h2 (.inl z)⟩, fun z => h2 (.inr z)⟩
theorem rest_most (hL : Up L) (hR : Up R) (sub : ∀ a ∈ R, a ∈ L) (hT : ∀ r ∈ T, r ∈ pairsL L) : mostB L T "apart" R = mostB L T "cover" (resL L R) := by
  unfold mostB
  rw [if_neg nAC, if_pos rfl, rest_kind hL hR sub hT]
  congr 1
  rw [Bool.eq_iff_iff, List.all_eq_true, List.all_eq_true]
  constructor
  · intro h a ha
    obtain ⟨h1, h2⟩ := mem_resL.mp ha
    have q := h a h1
    rw [rest_kind hL (up_insW hR h2) (ins_sub h1 sub) hT, ← rem_res hL hR h2] at q
    simpa [h2] using q
  · intro h a ha
    by_cases h2 : a ∈ R
    · simp [h2]
    · have q := h a (mem_resL.mpr ⟨ha, h2⟩)
      rw [rest_kind hL (up_insW hR h2) (ins_sub ha sub) hT, ← rem_res hL hR h2]
      simpa [h2] using q
end
end Sy

namespace Sy
open PySem PySem.Spec PyProof.Rows L2
local macro_rules | `(tactic| simp! only [$ls,*]) => `(tactic| try simp only [callX_fold, mnA, mxA, strS, wB, wS, wT, wE, wA, wO, wC, tgS, binS, cmpS, biS, r1, r2, mtS, augS, cstS, splitS, opI_int, add_int, add_str, add_tup, add_ll, newL_f, newL_t, mul_int, ord_int, ord_str, int_int, int_bl, mn_int, mx_int, mn_str, mx_str, tuple_tup, tuple_tuf, tuple_lst, tuple_lstT, sl_lst, sl_tup, sl_scr, sl_str, it_lst, it_str, it_tup, it_tuf, it_enU, it_zU, it_rng1, it_rng2, it_enL, it_enT, it_zL, it_zT, List.set_cons_zero, List.set_cons_succ, List.getElem?_cons_zero, List.getElem?_cons_succ, some_ex, some_ex2, bl_ex, int_ex, eqS_int, idx_lst, idx_tup, idx_tuf, idx_str, len_lst, len_tup, len_tuf, len_scr, at_0, at_1, at_2, true_and, and_true, Int.fmod_eq_emod_of_nonneg, Int.fdiv_eq_ediv_of_nonneg, ne_eq, reduceCtorEq, not_false_eq_true, if_true, if_false, Bool.false_eq_true, decide_eq_true_eq, Int.reduceEq, Int.reduceLE, Int.reduceLT, $ls,*])
theorem toDS_row {S : Sto} {x : SV} {A : List PySem.Str} (hx : Isr x A) : toDS S x = some (.tuple (A.map PyData.str)) := by
  rcases hx with rfl | rfl
  · show toD (.tup (wS_ A)) = _
    exact toD_row A
  · show (toDs (wS_ A)).map PyData.tuple = _
    rw [toDs_words]
    rfl
theorem eqS_row {S : Sto} {x y : SV} {A B : List PySem.Str} {q : Bool → Prop} (hx : Isr x A) (hy : Isr y B) (okA : ∀ a ∈ A, PyData.strOk a = true) (okB : ∀ a ∈ B, PyData.strOk a = true) : eqS S x y q = q (decide (A = B)) := by
  rw [eqS_of (toDS_row hx) (toDS_row hy) (shaped_row okA) (shaped_row okB), PyData.eqv, eqvAll_words]
section
variable {Pr : PySem.Str → Option Def} {g : PySem.Str → Option SV}
end
end Sy

namespace Sy
/-! ### greatest rows, plain -/
section
variable {α : Type} [DecidableEq α]
/-- whether a may be put to the row R -/
def gwB (go : α → α → Bool) (R : List α) (a : α) : Bool := decide (a ∉ R) && R.all fun x => go x a
theorem gwB_iff {go : α → α → Bool} {R : List α} {a : α} : gwB go R a = true ↔ a ∉ R ∧ ∀ x ∈ R, go x a = true := by
  unfold gwB
  simp
/-- a greatest row of P -/
structure Mx (go : α → α → Bool) (P R : List α) : Prop where
  sub : R.Sublist P
  cl : ∀ x ∈ R, ∀ y ∈ R, x ≠ y → go x y = true
  mx : ∀ a ∈ P, gwB go R a = false
def subL : List α → List (List α)
  | [] => [[]]
  | a :: l => subL l ++ (subL l).map fun r => a :: r
theorem mem_subL : ∀ {l r : List α}, r ∈ subL l ↔ r.Sublist l
  | [], r => by simp [subL]
  | a :: l, r => by
    rw [subL, List.mem_append, List.mem_map, mem_subL]
    constructor
    · rintro (h | ⟨s, hs, rfl⟩)
      · exact h.cons a
      · exact (mem_subL.mp hs).cons₂ a
    · intro h
      cases h with
      | cons _ h => exact .inl h
      | cons_cons _ h => exact .inr ⟨_, mem_subL.mpr h, rfl⟩
theorem nd_subL : ∀ {l : List α}, l.Nodup → (subL l).Nodup
  | [], _ => by simp [subL]
  | a :: l, h => by
    obtain ⟨h1, h2⟩ := List.nodup_cons.mp h
    rw [subL, List.nodup_append]
    refine ⟨nd_subL h2, ?_, ?_⟩
    · rw [List.Nodup, List.pairwise_map]
      exact (nd_subL h2).imp fun {x y} hxy e => hxy (List.cons.inj e).2
    · intro x hx y hy e
      obtain ⟨s, hs, rfl⟩ := List.mem_map.mp hy
      rw [e] at hx
      exact h1 ((mem_subL.mp hx).subset List.mem_cons_self)
def mxB (go : α → α → Bool) (P R : List α) : Bool := R.all (fun x => R.all fun y => decide (x = y) || go x y) && P.all fun a => !gwB go R a
theorem mxB_iff {go : α → α → Bool} {P R : List α} (h : R.Sublist P) : mxB go P R = true ↔ Mx go P R := by
  unfold mxB
  rw [Bool.and_eq_true, List.all_eq_true, List.all_eq_true]
  constructor
  · rintro ⟨h1, h2⟩
    refine ⟨h, fun x hx y hy hn => ?_, fun a ha => by simpa using h2 a ha⟩
    have := List.all_eq_true.mp (h1 x hx) y hy
    simpa [hn] using this
  · rintro ⟨_, h1, h2⟩
    refine ⟨fun x hx => List.all_eq_true.mpr fun y hy => ?_, fun a ha => by simpa using h2 a ha⟩
    by_cases e : x = y
    · simp [e]
    · simp [e, h1 x hx y hy e]
/-- all of them -/
def mxIt (go : α → α → Bool) (P : List α) : List (List α) := (subL P).filter (mxB go P)
theorem mem_mxL {go : α → α → Bool} {P R : List α} : R ∈ mxIt go P ↔ Mx go P R := by
  unfold mxIt
  rw [List.mem_filter, mem_subL]
  constructor
  · rintro ⟨h1, h2⟩
    exact (mxB_iff h1).mp h2
  · intro h
    exact ⟨h.sub, (mxB_iff h.sub).mpr h⟩
theorem nd_mxL {go : α → α → Bool} {P : List α} (h : P.Nodup) : (mxIt go P).Nodup := (nd_subL h).sublist List.filter_sublist
theorem len_subL : ∀ l : List α, (subL l).length = 2 ^ l.length
  | [] => rfl
  | a :: l => by
    rw [subL, List.length_append, List.length_map, len_subL l, List.length_cons, Nat.pow_succ]
    omega
theorem len_mxL (go : α → α → Bool) (P : List α) : (mxIt go P).length ≤ 2 ^ P.length := by
  rw [← len_subL]
  exact List.length_filter_le _ _
/-- sublists of a list without repeats are told by their members -/
theorem sub_filter : ∀ {P R : List α}, P.Nodup → R.Sublist P → R = P.filter fun x => decide (x ∈ R)
  | [], R, _, h => by
    cases h
    rfl
  | a :: P, R, hn, h => by
    obtain ⟨h1, h2⟩ := List.nodup_cons.mp hn
    cases h with
    | cons _ h =>
      have ha : a ∉ R := fun z => h1 (h.subset z)
      rw [List.filter_cons_of_neg (by simpa using ha)]
      exact sub_filter h2 h
    | @cons_cons R' _ _ h =>
      have hR : R' = P.filter fun x => decide (x ∈ R') := sub_filter h2 h
      rw [List.filter_cons_of_pos (by simp)]
      congr 1
      rw [hR]
      refine List.filter_congr fun x hx => ?_
      have hxa : x ≠ a := fun e => h1 (e ▸ hx)
      simp [hxa, hx]
theorem sub_ext {P R Q : List α} (hn : P.Nodup) (h1 : R.Sublist P) (h2 : Q.Sublist P) (h : ∀ x, x ∈ R ↔ x ∈ Q) : R = Q := by
  rw [sub_filter hn h1, sub_filter hn h2]
  refine List.filter_congr fun x _ => ?_
  simp [h x]
section
variable {go : α → α → Bool} {P : List α} (sy : ∀ x y, go x y = go y x)
include sy
/-- a row can be made greatest -/
theorem mx_ext (hP : P.Nodup) : ∀ (n : Nat) {R : List α}, P.length - R.length ≤ n → R.Sublist P → (∀ x ∈ R, ∀ y ∈ R, x ≠ y → go x y = true) → ∃ Q, Mx go P Q ∧ ∀ x ∈ R, x ∈ Q := by
  intro n
  induction n with
  | zero =>
    intro R hl hs hc
    have : R = P := hs.eq_of_length_le (by omega)
    subst this
    refine ⟨R, ⟨hs, hc, fun a ha => ?_⟩, fun x h => h⟩
    unfold gwB
    simp [ha]
  | succ n ih =>
    intro R hl hs hc
    by_cases hm : ∀ a ∈ P, gwB go R a = false
    · exact ⟨R, ⟨hs, hc, hm⟩, fun x h => h⟩
    · have hm' : ∃ a, a ∈ P ∧ gwB go R a = true := by
        refine Classical.byContradiction fun z => hm fun a ha => ?_
        cases e : gwB go R a with
        | false => rfl
        | true => exact absurd ⟨a, ha, e⟩ z
      obtain ⟨a, ha, hg⟩ := hm'
      obtain ⟨h1, h2⟩ := gwB_iff.mp hg
      have hR := sub_filter hP hs
      have hlen : R.length < (P.filter fun x => decide (x ∈ R ∨ x = a)).length := by
        have hsl : R.Sublist (P.filter fun x => decide (x ∈ R ∨ x = a)) := by
          have h3 : R = (P.filter fun x => decide (x ∈ R ∨ x = a)).filter fun x => decide (x ∈ R) := by
            rw [List.filter_filter]
            refine hR.trans (List.filter_congr fun x _ => ?_)
            by_cases hx : x ∈ R <;> simp [hx]
          rw [h3]
          simp only [List.filter_filter]
          have : (P.filter fun x => decide (x ∈ R ∨ x = a)).filter (fun x => decide (x ∈ R)) = List.filter (fun a_1 => decide (a_1 ∈ R) && decide (a_1 ∈ R ∨ a_1 = a)) P := by rw [List.filter_filter]
          have e2 : (List.filter (fun x => decide (x ∈ List.filter (fun a_1 => decide (a_1 ∈ R) && decide (a_1 ∈ R ∨ a_1 = a)) P ∨ x = a)) P) = P.filter fun x => decide (x ∈ R ∨ x = a) := by
            refine List.filter_congr fun x hx => ?_
            by_cases hxR : x ∈ R <;> simp [hxR, hx]
          rw [e2, ← this]
          exact List.filter_sublist
        refine Nat.lt_of_le_of_ne hsl.length_le fun e => ?_
        have e3 := hsl.eq_of_length e
        have : a ∈ R := by
          rw [e3]
          exact List.mem_filter.mpr ⟨ha, by simp⟩
        exact h1 this
      have hle := (List.filter_sublist (l := P) (p := fun x => decide (x ∈ R ∨ x = a))).length_le
      obtain ⟨Q, hQ, hsub⟩ := ih (R := P.filter fun x => decide (x ∈ R ∨ x = a)) (by omega) List.filter_sublist (fun x hx y hy hn => by
        rcases of_decide_eq_true (List.mem_filter.mp hx).2 with zx | zx <;> rcases of_decide_eq_true (List.mem_filter.mp hy).2 with zy | zy
        · exact hc x zx y zy hn
        · rw [zy]; exact h2 x zx
        · rw [zx, sy]; exact h2 y zy
        · exact absurd (zx.trans zy.symm) hn)
      exact ⟨Q, hQ, fun x hx => hsub x (List.mem_filter.mpr ⟨hs.subset hx, by simp [hx]⟩)⟩
theorem mx_of (hP : P.Nodup) {R : List α} (hs : R.Sublist P) (hc : ∀ x ∈ R, ∀ y ∈ R, x ≠ y → go x y = true) : ∃ Q, Mx go P Q ∧ ∀ x ∈ R, x ∈ Q := mx_ext sy hP _ (Nat.le_refl _) hs hc
/-- one row in another -/
theorem Mx.eq_of (hP : P.Nodup) {R Q : List α} (h : Mx go P R) (hs : Q.Sublist P) (hc : ∀ x ∈ Q, ∀ y ∈ Q, x ≠ y → go x y = true) (sub : ∀ x ∈ R, x ∈ Q) : R = Q := by
  refine sub_ext hP h.sub hs fun x => ⟨sub x, fun hx => ?_⟩
  refine Classical.byContradiction fun hn => ?_
  have := h.mx x (hs.subset hx)
  have h2 : gwB go R x = true := gwB_iff.mpr ⟨hn, fun y hy => hc y (sub y hy) x hx fun e => hn (e ▸ hy)⟩
  rw [h2] at this
  cases this
/-- the step by a name more -/
theorem mx_step {n : α} (hP : (P ++ [n]).Nodup) {Q : List α} : Mx go (P ++ [n]) Q ↔ ∃ R, Mx go P R ∧ ((Q = R ∧ (R.filter fun x => go n x).length < R.length) ∨
    (Q = (R.filter fun x => go n x) ++ [n] ∧ ∀ a ∈ P, gwB go ((R.filter fun x => go n x) ++ [n]) a = false)) := by
  obtain ⟨hP1, _, hP3⟩ := List.nodup_append.mp hP
  have hnP : n ∉ P := fun h => hP3 n h n (by simp) rfl
  have flt : ∀ R : List α, (R.filter fun x => go n x).length < R.length ↔ ∃ x ∈ R, go n x = false := fun R => by
    constructor
    · intro h
      refine Classical.byContradiction fun z => ?_
      have : R.filter (fun x => go n x) = R := List.filter_eq_self.mpr fun x hx => by
        cases e : go n x with
        | true => rfl
        | false => exact absurd ⟨x, hx, e⟩ z
      rw [this] at h
      exact Nat.lt_irrefl _ h
    · rintro ⟨x, hx, e⟩
      refine Nat.lt_of_le_of_ne (List.length_filter_le _ _) fun z => ?_
      have := List.length_filter_eq_length_iff.mp z x hx
      rw [e] at this
      cases this
  constructor
  · intro h
    by_cases hn : n ∈ Q
    · -- Q = Q' ++ [n]
      have e1 := sub_filter hP h.sub
      rw [List.filter_append, List.filter_cons_of_pos (by simpa using hn), List.filter_nil] at e1
      generalize hQ' : P.filter (fun x => decide (x ∈ Q)) = Q' at e1
      have sQ : Q'.Sublist P := by rw [← hQ']; exact List.filter_sublist
      have cQ : ∀ x ∈ Q', ∀ y ∈ Q', x ≠ y → go x y = true := fun x hx y hy hxy => h.cl x (by rw [e1]; simp [hx]) y (by rw [e1]; simp [hy]) hxy
      obtain ⟨R, hR, hsub⟩ := mx_of sy hP1 sQ cQ
      have nR : n ∉ R := fun z => hnP (hR.sub.subset z)
      have hk : Q = (R.filter fun x => go n x) ++ [n] := by
        refine h.eq_of sy hP ?_ (fun x hx y hy hxy => ?_) fun x hx => ?_
        · exact List.Sublist.append (List.Sublist.trans List.filter_sublist hR.sub) (List.Sublist.refl _)
        · rcases List.mem_append.mp hx with hx | hx <;> rcases List.mem_append.mp hy with hy | hy
          · exact hR.cl x (List.mem_filter.mp hx).1 y (List.mem_filter.mp hy).1 hxy
          · rw [List.mem_singleton.mp hy, sy]; exact (List.mem_filter.mp hx).2
          · rw [List.mem_singleton.mp hx]; exact (List.mem_filter.mp hy).2
          · rw [List.mem_singleton.mp hx, List.mem_singleton.mp hy] at hxy
            exact absurd rfl hxy
        · rw [e1] at hx
          rcases List.mem_append.mp hx with hx | hx
          · refine List.mem_append_left _ (List.mem_filter.mpr ⟨hsub x hx, ?_⟩)
            refine h.cl n hn x (by rw [e1]; simp [hx]) fun e => hnP (e ▸ sQ.subset hx)
          · exact List.mem_append_right _ hx
      exact ⟨R, hR, .inr ⟨hk, fun a ha => by rw [← hk]; exact h.mx a (List.mem_append_left _ ha)⟩⟩
    · have sQ : Q.Sublist P := by
        have e1 := sub_filter hP h.sub
        rw [List.filter_append, List.filter_cons_of_neg (by simpa using hn), List.filter_nil, List.append_nil] at e1
        rw [e1]
        exact List.filter_sublist
      refine ⟨Q, ⟨sQ, h.cl, fun a ha => h.mx a (List.mem_append_left _ ha)⟩, .inl ⟨rfl, (flt Q).mpr ?_⟩⟩
      refine Classical.byContradiction fun z => ?_
      have := h.mx n (by simp)
      rw [gwB_iff.mpr ⟨hn, fun x hx => by
        rw [sy]
        cases e : go n x with
        | true => rfl
        | false => exact absurd ⟨x, hx, e⟩ z⟩] at this
      cases this
  · rintro ⟨R, hR, (⟨rfl, hl⟩ | ⟨rfl, hm⟩)⟩
    · have nR : n ∉ Q := fun z => hnP (hR.sub.subset z)
      refine ⟨hR.sub.trans (List.sublist_append_left _ _), hR.cl, fun a ha => ?_⟩
      rcases List.mem_append.mp ha with ha | ha
      · exact hR.mx a ha
      · rw [List.mem_singleton.mp ha]
        obtain ⟨x, hx, e⟩ := (flt Q).mp hl
        cases z : gwB go Q n with
        | false => rfl
        | true =>
          have := (gwB_iff.mp z).2 x hx
          rw [sy, e] at this
          cases this
    · refine ⟨List.Sublist.append (List.Sublist.trans List.filter_sublist hR.sub) (List.Sublist.refl _), fun x hx y hy hxy => ?_, fun a ha => ?_⟩
      · rcases List.mem_append.mp hx with hx | hx <;> rcases List.mem_append.mp hy with hy | hy
        · exact hR.cl x (List.mem_filter.mp hx).1 y (List.mem_filter.mp hy).1 hxy
        · rw [List.mem_singleton.mp hy, sy]; exact (List.mem_filter.mp hx).2
        · rw [List.mem_singleton.mp hx]; exact (List.mem_filter.mp hy).2
        · rw [List.mem_singleton.mp hx, List.mem_singleton.mp hy] at hxy
          exact absurd rfl hxy
      · rcases List.mem_append.mp ha with ha | ha
        · exact hm a ha
        · rw [List.mem_singleton.mp ha]
          unfold gwB
          simp
end
end
end Sy

namespace Sy
/-! ### in and out, name by name -/
section
variable {α : Type} [DecidableEq α]
abbrev BkI (α : Type) := List α × List α × List α
def inB (R : List α) (it : BkI α) : Bool := it.1.all (fun x => decide (x ∈ R)) && it.2.2.all fun x => decide (x ∉ R)
theorem inB_iff {R : List α} {it : BkI α} : inB R it = true ↔ (∀ x ∈ it.1, x ∈ R) ∧ ∀ x ∈ it.2.2, x ∉ R := by
  unfold inB
  simp
structure GoodI (go : α → α → Bool) (P : List α) (it : BkI α) : Prop where
  sub : ∀ x ∈ it.1, x ∈ P
  nd : it.1.Nodup
  cl : ∀ x ∈ it.1, ∀ y ∈ it.1, x ≠ y → go x y = true
  ln : it.2.1.Nodup
  dj : ∀ x ∈ it.2.1, x ∉ it.2.2
  on : it.2.2.Nodup
  all : ∀ a, (a ∈ it.2.1 ∨ a ∈ it.2.2) ↔ (a ∈ P ∧ gwB go it.1 a = true)
section
variable {go : α → α → Bool} {P : List α} (sy : ∀ x y, go x y = go y x)
include sy
/-- what is found, and what waits -/
structure Bk (go : α → α → Bool) (P : List α) (found : List (List α)) (waiting : List (BkI α)) : Prop where
  fm : ∀ R ∈ found, Mx go P R
  cnt : ∀ R, Mx go P R → found.count R + waiting.countP (inB R) = 1
  good : ∀ it ∈ waiting, GoodI go P it
theorem Bk.start (hP : P.Nodup) : Bk go P [] [([], P, [])] where
  fm := fun R h => by cases h
  cnt := fun R h => by simp [inB]
  good := fun it h => by
    rw [List.mem_singleton.mp h]
    exact ⟨fun x h => (nomatch h), List.nodup_nil, fun x h => (nomatch h), hP, fun x _ h => (nomatch h), List.nodup_nil, fun a => by simp [gwB]⟩
theorem Bk.leaf {found : List (List α)} {ws : List (BkI α)} {row r : List α} (hP : P.Nodup) (B : Bk go P found (ws ++ [(row, [], [])])) (hr : r.Sublist P) (hm : ∀ x, x ∈ r ↔ x ∈ row) : Bk go P (found ++ [r]) ws := by
  have G := B.good (row, [], []) (by simp)
  have hc : ∀ x ∈ r, ∀ y ∈ r, x ≠ y → go x y = true := fun x hx y hy hxy => G.cl x ((hm x).mp hx) y ((hm y).mp hy) hxy
  have hMx : Mx go P r := ⟨hr, hc, fun a ha => by
    cases e : gwB go r a with
    | false => rfl
    | true =>
      obtain ⟨z1, z2⟩ := gwB_iff.mp e
      have := (G.all a).mpr ⟨ha, gwB_iff.mpr ⟨fun z => z1 ((hm a).mpr z), fun x hx => z2 x ((hm x).mpr hx)⟩⟩
      rcases this with z | z <;> cases z⟩
  refine ⟨fun R h => ?_, fun R h => ?_, fun it h => B.good it (List.mem_append_left _ h)⟩
  · rcases List.mem_append.mp h with h | h
    · exact B.fm R h
    · rw [List.mem_singleton.mp h]; exact hMx
  · have := B.cnt R h
    rw [List.countP_append, List.countP_cons, List.countP_nil] at this
    rw [List.count_append, List.count_cons, List.count_nil]
    have e : inB R (row, [], []) = true ↔ r = R := by
      rw [inB_iff]
      constructor
      · rintro ⟨h1, _⟩
        exact hMx.eq_of sy hP h.sub h.cl fun x hx => h1 x ((hm x).mp hx)
      · intro e
        exact ⟨fun x hx => e ▸ (hm x).mpr hx, fun x hx => by cases hx⟩
    by_cases z : r = R
    · rw [if_pos (e.mpr z)] at this
      rw [if_pos (by simpa using z)]
      omega
    · rw [if_neg fun w => z (e.mp w)] at this
      rw [if_neg (by simpa using z)]
      omega
omit sy in
theorem Bk.fin {found : List (List α)} (hP : P.Nodup) (B : Bk go P found []) : found.Perm (mxIt go P) := by
  refine List.perm_iff_count.mpr fun R => ?_
  by_cases h : Mx go P R
  · have := B.cnt R h
    rw [List.countP_nil] at this
    rw [(nd_mxL hP).count, if_pos (mem_mxL.mpr h)]
    omega
  · rw [List.count_eq_zero.mpr fun z => h (B.fm R z), List.count_eq_zero.mpr fun z => h (mem_mxL.mp z)]
end
end
end Sy

namespace Sy
def d_tied_pairs : Def := ⟨["web"], ["web", "found", "one", "other"],
 (.cons (.asg (.one 1 "found") (.dnew true))
 (.cons (.for_ (.many [(2, "one"), (3, "other")]) .seq (.cons (.idx (.var 0 "web") (.cst (.int 1))) .nil) (.cons (.setIx (.var 1 "found") (.tup (.cons (.var 2 "one") (.cons (.var 3 "other") .nil))) (.cst (.bool true)))
 (.cons (.setIx (.var 1 "found") (.tup (.cons (.var 3 "other") (.cons (.var 2 "one") .nil))) (.cst (.bool true)))
 .nil)))
 (.cons (.frz 1)
 (.cons (.ret (.var 1 "found"))
 .nil))))⟩

def d_go_together : Def := ⟨["pairs", "kind", "one", "other"], ["pairs", "kind", "one", "other"],
 (.cons (.ret (.cmp .Eq (.cmp .In (.tup (.cons (.var 2 "one") (.cons (.var 3 "other") .nil))) (.var 0 "pairs")) (.cmp .Eq (.var 1 "kind") (.cst (.str "tied")))))
 .nil)⟩

def d_goes_with : Def := ⟨["pairs", "kind", "name", "row"], ["pairs", "kind", "name", "row", "one"],
 (.cons (.ret (.and (.cmp .NotIn (.var 2 "name") (.var 3 "row")) (.cmp .Eq (.lc false [("one", 4)] (.var 4 "one") (.one 4 "one") .seq (.cons (.var 3 "row") .nil) (.some (.not (.call "go_together" (.cons (.var 0 "pairs") (.cons (.var 1 "kind") (.cons (.var 4 "one") (.cons (.var 2 "name") .nil)))))))) (.lst false .nil))))
 .nil)⟩

def d_rows_with : Def := ⟨["rows", "names", "place", "goes"], ["rows", "names", "place", "goes", "name", "found", "row", "kept", "wider", "one"],
 (.cons (.asg (.one 4 "name") (.idx (.var 1 "names") (.var 2 "place")))
 (.cons (.asg (.one 5 "found") (.dnew true))
 (.cons (.for_ (.one 6 "row") .seq (.cons (.var 0 "rows") .nil) (.cons (.asg (.one 7 "kept") (.bi .tuple false (.cons (.lc false [("one", 9)] (.var 9 "one") (.one 9 "one") .seq (.cons (.var 6 "row") .nil) (.some (.callv 3 "goes" (.cons (.var 9 "one") (.cons (.tup (.cons (.var 4 "name") .nil)) .nil))))) .nil)))
 (.cons (.ifs (.cmp .Lt (.bi .len false (.cons (.var 7 "kept") .nil)) (.bi .len false (.cons (.var 6 "row") .nil))) (.cons (.setIx (.var 5 "found") (.var 6 "row") (.cst (.bool true)))
 .nil) .nil)
 (.cons (.asg (.one 8 "wider") (.bin .Add false (.var 7 "kept") (.tup (.cons (.var 4 "name") .nil))))
 (.cons (.ifs (.cmp .Eq (.lc false [("one", 9)] (.var 9 "one") (.one 9 "one") .seq (.cons (.sl false (.var 1 "names") .none (.some (.var 2 "place"))) .nil) (.some (.callv 3 "goes" (.cons (.var 9 "one") (.cons (.var 8 "wider") .nil))))) (.lst false .nil)) (.cons (.setIx (.var 5 "found") (.var 8 "wider") (.cst (.bool true)))
 .nil) .nil)
 .nil)))))
 (.cons (.frz 5)
 (.cons (.ret (.bi .list false (.cons (.var 5 "found") .nil)))
 .nil)))))⟩

def d_all_rows : Def := ⟨["web", "kind"], ["web", "kind", "names", "pairs", "rows", "place", "others", "row", "name"],
 (.cons (.asg (.one 2 "names") (.idx (.var 0 "web") (.cst (.int 0))))
 (.cons (.ifs (.cmp .Eq (.var 1 "kind") (.cst (.str "cover"))) (.cons (.asg (.one 6 "others") (.call "all_rows" (.cons (.var 0 "web") (.cons (.cst (.str "apart")) .nil))))
 (.cons (.ret (.bi .sorted false (.cons (.lc false [("row", 7)] (.bi .tuple false (.cons (.lc false [("name", 8)] (.var 8 "name") (.one 8 "name") .seq (.cons (.var 2 "names") .nil) (.some (.cmp .NotIn (.var 8 "name") (.var 7 "row")))) .nil)) (.one 7 "row") .seq (.cons (.var 6 "others") .nil) .none) .nil)))
 .nil)) .nil)
 (.cons (.asg (.one 3 "pairs") (.call "tied_pairs" (.cons (.var 0 "web") .nil)))
 (.cons (.asg (.one 4 "rows") (.lst false (.cons (.tup .nil) .nil)))
 (.cons (.for_ (.one 5 "place") .rng1 (.cons (.bi .len false (.cons (.var 2 "names") .nil)) .nil) (.cons (.asgL 4 "rows" "rows_with" (.var 4 "rows") (.var 2 "names") (.var 5 "place") ["one", "row", "kind", "pairs"] ["one", "row"] [1, 3] (.call "goes_with" (.cons (.var 3 "pairs") (.cons (.var 2 "kind") (.cons (.var 0 "one") (.cons (.var 1 "row") .nil))))))
 .nil))
 (.cons (.ret (.bi .sorted false (.cons (.var 4 "rows") .nil)))
 .nil))))))⟩

end Sy

namespace Sy
open PySem PySem.Spec PyProof.Rows L2
local macro_rules | `(tactic| simp! only [$ls,*]) => `(tactic| try simp only [callX_fold, mnA, mxA, strS, wB, wS, wT, wE, wA, wO, wC, tgS, binS, cmpS, biS, r1, r2, mtS, augS, cstS, splitS, opI_int, add_int, add_str, add_tup, add_ll, newL_f, newL_t, mul_int, ord_int, ord_str, int_int, int_bl, mn_int, mx_int, mn_str, mx_str, tuple_tup, tuple_tuf, tuple_lst, tuple_lstT, sl_lst, sl_tup, sl_scr, sl_str, it_lst, it_str, it_tup, it_tuf, it_enU, it_zU, it_rng1, it_rng2, it_enL, it_enT, it_zL, it_zT, List.set_cons_zero, List.set_cons_succ, List.getElem?_cons_zero, List.getElem?_cons_succ, some_ex, some_ex2, bl_ex, int_ex, eqS_int, idx_lst, idx_tup, idx_tuf, idx_str, len_lst, len_tup, len_tuf, len_scr, at_0, at_1, at_2, true_and, and_true, Int.fmod_eq_emod_of_nonneg, Int.fdiv_eq_ediv_of_nonneg, ne_eq, reduceCtorEq, not_false_eq_true, if_true, if_false, Bool.false_eq_true, decide_eq_true_eq, Int.reduceEq, Int.reduceLE, Int.reduceLT, $ls,*])
theorem callX0_fold {P : PySem.Str → Option Def} {g : PySem.Str → Option SV} {n : Nat} {f : PySem.Str} {vs : List SV} {S : Sto} {Q : SK} : callX0 P g n f vs S Q noX = callS0 P g n f vs S Q := rfl
theorem calL_lam {P : PySem.Str → Option Def} {g : PySem.Str → Option SV} {k : Nat} {x : SV} {R : Cal → List SV → Sto → SK → Prop} {us : List SV} {S : Sto} {Q : SK} (h : R (callS0 P g k) us S Q) : calL P g k x R "<lambda>" (x :: us) S Q := by
  unfold calL
  rw [if_neg (by decide +kernel), if_pos rfl]
  exact ⟨us, rfl, h⟩
theorem calL_is {P : PySem.Str → Option Def} {g : PySem.Str → Option SV} {k : Nat} {x : SV} {R : Cal → List SV → Sto → SK → Prop} {S : Sto} {Q : SK} : calL P g k x R "<is lambda>" [x] S Q := by
  unfold calL
  rw [if_pos rfl]
/-- two names may stand in one row -/
def goT (T : List (List PySem.Str)) (kind a b : PySem.Str) : Bool := (decide ([a, b] ∈ T) || decide ([b, a] ∈ T)) == decide (kind = "tied")
theorem goT_sy (T : List (List PySem.Str)) (kind a b : PySem.Str) : goT T kind a b = goT T kind b a := by
  unfold goT
  rw [Bool.or_comm]
/-- the dict of tied pairs -/
def PairsD (T : List (List PySem.Str)) (ks : List (List Key)) (vs : List SV) : Prop := ks.length = vs.length ∧ ∀ a b, kx [a, b] ∈ ks ↔ [a, b] ∈ T ∨ [b, a] ∈ T
theorem eqS_lw {S : Sto} {A B : List PySem.Str} {q : Bool → Prop} (okA : ∀ a ∈ A, PyData.strOk a = true) (okB : ∀ a ∈ B, PyData.strOk a = true) : eqS S (.lst (wS_ A)) (.lst (wS_ B)) q = q (decide (A = B)) := by
  have e : ∀ W : List PySem.Str, toDS S (.lst (wS_ W)) = some (.list (W.map PyData.str)) := fun W => by
    show (toDs (wS_ W)).map PyData.list = _
    rw [toDs_words]
    rfl
  rw [eqS_of (e A) (e B) (shaped_words okA) (shaped_words okB), PyData.eqv, eqvAll_words]
theorem eqS_lw0 {S : Sto} {A : List PySem.Str} {q : Bool → Prop} (okA : ∀ a ∈ A, PyData.strOk a = true) : eqS S (.lst (wS_ A)) (.lst []) q = q (decide (A = [])) := eqS_lw (B := []) okA (fun a h => nomatch h)
section
variable {Pr : PySem.Str → Option Def} {g : PySem.Str → Option SV}
theorem tied_pairs_ok (pt : Pr "tied_pairs" = some d_tied_pairs) {k : Nat} {S : Sto} {L : List PySem.Str} {T : List (List PySem.Str)} {Q : SK} (okT : ∀ r ∈ T, ∃ a b, r = [a, b]) (hT : T.length ≤ 9900)
    (q : ∀ ks vs, PairsD T ks vs → Q (.dT ks vs) S) : callS Pr g (k + 1) "tied_pairs" [webS L T] S Q := by
  have big : (20000 : Nat) ≤ sizeLine := by decide
  refine ⟨d_tied_pairs, pt, rfl, ?_⟩
  show wB _ _ d_tied_pairs.body _ [some (webS L T), none, none, none] S
  unfold d_tied_pairs
  simp! only []
  intro p hp
  refine for_inv (fun i ρ S' => ∃ (ks : List (List Key)) (vs : List SV) (v2 v3 : Option SV), ρ = [some (webS L T), some (.own p), v2, v3] ∧ S' p = some (.dT ks vs) ∧ ks.length ≤ 2 * i ∧ PairsD (T.take i) ks vs ∧ ∀ a, a ≠ p → S' a = S a)
    ⟨[], [], none, none, rfl, supd_same, by simp, ⟨rfl, fun a b => by simp⟩, fun a h => supd_ne h⟩ ?_ ?_
  · rintro i y ρ S1 D hy ⟨ks, vs, v2, v3, rfl, hD, hli, ⟨hl, hm⟩, fr⟩ nx _ _ _
    rw [List.getElem?_map] at hy
    obtain ⟨r, hr, rfl⟩ := Option.map_eq_some_iff.mp hy
    have hi := (List.getElem?_eq_some_iff.mp hr).1
    obtain ⟨a, b, rfl⟩ := okT r (List.mem_of_getElem? hr)
    refine ⟨_, _, .inl rfl, rfl, ?_⟩
    obtain ⟨m1, m2, m3⟩ := putX_mem (k := kx [a, b]) (v := .bl true) hl
    obtain ⟨n1, n2, n3⟩ := putX_mem (k := kx [b, a]) (v := .bl true) m1
    simp! only [List.length_cons, List.length_nil]
    refine ⟨by omega, ?_⟩
    rw [show SV.tup [.str a, .str b] = rS [a, b] from rfl, set_dT hD]
    refine ⟨by omega, ?_⟩
    simp! only [List.length_cons, List.length_nil]
    refine ⟨by omega, ?_⟩
    rw [show SV.tup [.str b, .str a] = rS [b, a] from rfl, set_dT supd_same]
    refine ⟨by omega, nx _ _ ⟨_, _, _, _, rfl, supd_same, by omega, ⟨n1, fun c d => ?_⟩, fun c h => by rw [supd_ne h, supd_ne h]; exact fr c h⟩⟩
    rw [n3, m3, hm, List.take_add_one, hr]
    have e1 : kx [c, d] = kx [a, b] ↔ [c, d] = [a, b] := ⟨kx_inj, fun h => by rw [h]⟩
    have e2 : kx [c, d] = kx [b, a] ↔ [d, c] = [a, b] := ⟨fun h => by have := kx_inj h; simp at this ⊢; exact ⟨this.2, this.1⟩, fun h => by simp at h; rw [h.1, h.2]⟩
    rw [e1, e2]
    simp only [Option.toList_some, List.mem_append, List.mem_singleton]
    constructor
    · rintro (((h | h) | h) | h)
      · exact .inl (.inl h)
      · exact .inr (.inl h)
      · exact .inl (.inr h)
      · exact .inr (.inr h)
    · rintro ((h | h) | (h | h))
      · exact .inl (.inl (.inl h))
      · exact .inl (.inr h)
      · exact .inl (.inl (.inr h))
      · exact .inr h
  · rintro ρ S1 ⟨ks, vs, v2, v3, rfl, hD, hli, hm, fr⟩
    refine ⟨p, wo S1 p, .dT ks vs, rfl, wo_sub, .dT hD wo_same, ?_⟩
    rw [wo_back hp fr]
    simp! only []
    rw [List.length_map, List.take_length] at hm
    exact fin_same (q ks vs hm)
theorem go_together_ok0 (pg : Pr "go_together" = some d_go_together) {k : Nat} {S : Sto} {T : List (List PySem.Str)} {ks : List (List Key)} {vs : List SV} {kind a b : PySem.Str} {Q : SK} (hP : PairsD T ks vs) (hkind : PyData.strOk kind = true)
    (q : Q (.bl (goT T kind a b)) S) : callS0 Pr g (k + 1) "go_together" [.dT ks vs, .str kind, .str a, .str b] S Q := by
  have big : (20000 : Nat) ≤ sizeLine := by decide
  refine ⟨d_go_together, pg, rfl, ?_⟩
  show wB _ _ d_go_together.body _ [some (.dT ks vs), some (.str kind), some (.str a), some (.str b)] S
  unfold d_go_together
  simp! only [List.length_cons, List.length_nil]
  have hb : (decide ([a, b] ∈ T) || decide ([b, a] ∈ T)) = true ↔ kx [a, b] ∈ ks := by
    rw [hP.2, Bool.or_eq_true, decide_eq_true_eq, decide_eq_true_eq]
  rw [show SV.tup [.str a, .str b] = rS [a, b] from rfl, in_dT hP.1 hb]
  simp! only [eqS_str hkind (show PyData.strOk "tied" = true by decide +kernel), eqS_bl, Bool.false_xor]
  exact ⟨by omega, fin_same q⟩
theorem goes_with_ok0 (pg : Pr "go_together" = some d_go_together) (pw : Pr "goes_with" = some d_goes_with) {k : Nat} {S : Sto} {T : List (List PySem.Str)} {ks : List (List Key)} {vs : List SV} {kind a : PySem.Str} {R : List PySem.Str} {Q : SK} (hP : PairsD T ks vs) (hkind : PyData.strOk kind = true)
    (oka : PyData.strOk a = true) (okR : ∀ b ∈ R, PyData.strOk b = true) (hR : R.length ≤ 1000) (q : Q (.bl (gwB (goT T kind) R a)) S) : callS0 Pr g (k + 2) "goes_with" [.dT ks vs, .str kind, .str a, .tup (wS_ R)] S Q := by
  have big : (20000 : Nat) ≤ sizeLine := by decide
  refine ⟨d_goes_with, pw, rfl, ?_⟩
  show wB _ _ d_goes_with.body _ [some (.dT ks vs), some (.str kind), some (.str a), some (.tup (wS_ R)), none] S
  unfold d_goes_with
  simp! only [inK_tup, in_words oka okR, Bool.true_xor]
  unfold gwB at q
  by_cases h : a ∈ R
  · rw [if_neg (by simp [h])]
    refine fin_same ?_
    simpa [h] using q
  · rw [if_pos (by simp [h])]
    simp! only [wipeR, List.map_cons, List.map_nil]
    refine lc_on SV.str (fun b => if (!goT T kind b a) = true then some (SV.str b) else none) (by omega) (fun b hb kk kf h1 h2 => ?_) ?_
    · simp! only [callX0_fold]
      refine go_together_ok0 pg hP hkind ?_
      simp! only []
      by_cases z : goT T kind b a = true
      · simp only [z, Bool.not_true, Bool.false_eq_true, if_false] at h1 h2 ⊢
        exact h2 trivial
      · rw [Bool.not_eq_true] at z
        simp only [z, Bool.not_false, if_true] at h1 h2 ⊢
        exact h1 _ rfl
    · rw [fm_ite]
      have hl := List.length_filter_le (fun b => !goT T kind b a) R
      simp! only [List.length_map, List.length_nil]
      refine ⟨by omega, by omega, ?_⟩
      rw [eqS_lw0 fun b hb => okR b (List.mem_filter.mp hb).1]
      refine fin_same ?_
      have e : decide (List.filter (fun b => !goT T kind b a) R = []) = R.all fun x => goT T kind x a := by
        rw [Bool.eq_iff_iff, decide_eq_true_eq, List.filter_eq_nil_iff, List.all_eq_true]
        simp
      rw [e]
      simpa [h] using q
end
end Sy

namespace Sy
open PySem PySem.Spec PyProof.Rows L2
local macro_rules | `(tactic| simp! only [$ls,*]) => `(tactic| try simp only [callX_fold, mnA, mxA, strS, wB, wS, wT, wE, wA, wO, wC, tgS, binS, cmpS, biS, r1, r2, mtS, augS, cstS, splitS, opI_int, add_int, add_str, add_tup, add_ll, newL_f, newL_t, mul_int, ord_int, ord_str, int_int, int_bl, mn_int, mx_int, mn_str, mx_str, tuple_tup, tuple_tuf, tuple_lst, tuple_lstT, sl_lst, sl_tup, sl_scr, sl_str, it_lst, it_str, it_tup, it_tuf, it_enU, it_zU, it_rng1, it_rng2, it_enL, it_enT, it_zL, it_zT, List.set_cons_zero, List.set_cons_succ, List.getElem?_cons_zero, List.getElem?_cons_succ, some_ex, some_ex2, bl_ex, int_ex, eqS_int, idx_lst, idx_tup, idx_tuf, idx_str, len_lst, len_tup, len_tuf, len_scr, at_0, at_1, at_2, true_and, and_true, Int.fmod_eq_emod_of_nonneg, Int.fdiv_eq_ediv_of_nonneg, ne_eq, reduceCtorEq, not_false_eq_true, if_true, if_false, Bool.false_eq_true, decide_eq_true_eq, Int.reduceEq, Int.reduceLE, Int.reduceLT, $ls,*])
/-! ### rows as keys -/
def addR (D : List (List PySem.Str)) (r : List PySem.Str) : List (List PySem.Str) := if r ∈ D then D else D ++ [r]
theorem mem_addR {D : List (List PySem.Str)} {r x : List PySem.Str} : x ∈ addR D r ↔ x ∈ D ∨ x = r := by
  unfold addR
  split
  · rename_i h
    constructor
    · exact .inl
    · rintro (z | rfl)
      · exact z
      · exact h
  · simp
theorem nd_addR {D : List (List PySem.Str)} {r : List PySem.Str} (h : D.Nodup) : (addR D r).Nodup := by
  unfold addR
  split
  · exact h
  · rename_i hn
    refine List.nodup_append.mpr ⟨h, by simp, fun x hx y hy e => ?_⟩
    rw [List.mem_singleton.mp hy] at e
    exact hn (e ▸ hx)
theorem len_addR (D : List (List PySem.Str)) (r : List PySem.Str) : (addR D r).length ≤ D.length + 1 := by
  unfold addR
  split <;> simp
theorem put_rows {D : List (List PySem.Str)} {l : List SV} {r : List PySem.Str} {v : SV} : (putX (D.map kx) l (kx r) v).1 = (addR D r).map kx := by
  unfold putX addR
  have e : kx r ∈ D.map kx ↔ r ∈ D := ⟨fun h => by
    obtain ⟨s, hs, e⟩ := List.mem_map.mp h
    rw [← kx_inj e]; exact hs, fun h => List.mem_map.mpr ⟨r, h, rfl⟩⟩
  by_cases h : r ∈ D
  · rw [if_pos (e.mpr h), if_pos h]
  · rw [if_neg fun z => h (e.mp z), if_neg h, List.map_append]
    rfl
theorem src_rows {S : Sto} {D : List (List PySem.Str)} {vs : List SV} : srcOf S (.dT (D.map kx) vs) = some (D.map rS) := by
  show some ((D.map kx).map fun r => SV.tup (r.map keySV)) = _
  rw [List.map_map]
  congr 1
  refine List.map_congr_left fun r _ => ?_
  show SV.tup ((kx r).map keySV) = rS r
  unfold kx
  rw [List.map_map]
  rfl
theorem list_rows {S : Sto} {D : List (List PySem.Str)} {vs : List SV} {own : Bool} {k : SK} : listS own (.dT (D.map kx) vs) S k = newL own (D.map rS) S k := by
  unfold listS
  simp only [src_rows, Option.some.injEq, exists_eq_left']
/-- what comes of a row by a name more -/
def stepR (go : PySem.Str → PySem.Str → Bool) (P : List PySem.Str) (n : PySem.Str) (R Q : List PySem.Str) : Prop := (Q = R ∧ (R.filter fun x => go n x).length < R.length) ∨
    (Q = (R.filter fun x => go n x) ++ [n] ∧ ∀ a ∈ P, gwB go ((R.filter fun x => go n x) ++ [n]) a = false)
theorem setS_mono {x y v : SV} {S : Sto} {I K : Sto → Prop} (h : setS x y v S I) (hK : ∀ S', I S' → K S') : setS x y v S K := by
  unfold setS at h ⊢
  split at h
  · split at h
    · obtain ⟨d', h1, h2, h3⟩ := h
      exact ⟨d', h1, h2, hK _ h3⟩
    · obtain ⟨i, l, j, h1, h2, h3, h4⟩ := h
      exact ⟨i, l, j, h1, h2, h3, hK _ h4⟩
  · cases h
theorem ite_set {c : Prop} [Decidable c] {x y v : SV} {S : Sto} {K : Sto → Prop} (I : Sto → Prop) (h1 : c → setS x y v S I) (h2 : ¬ c → I S) (hK : ∀ S', I S' → K S') : if c then setS x y v S K else K S := by
  split
  · rename_i h
    exact setS_mono (h1 h) hK
  · rename_i h
    exact hK _ (h2 h)
section
variable {Pr : PySem.Str → Option Def} {g : PySem.Str → Option SV}
theorem rows_with_ok (pr : Pr "rows_with" = some d_rows_with) {k : Nat} {S : Sto} {L : List PySem.Str} {rows : List (List PySem.Str)} {n : Nat} {a c : Addr} {cs : List SV} {ws : List V} {R : Cal → List SV → Sto → SK → Prop} {go : PySem.Str → PySem.Str → Bool} {Q : SK}
    (sy : ∀ x y, go x y = go y x) (hL : L.length ≤ 14) (nd : L.Nodup) (ok : ∀ x ∈ L, PyData.strOk x = true) (hn : n < L.length) (hr : ∀ r, r ∈ rows ↔ Mx go (L.take n) r) (hlen : rows.length ≤ 16384)
    (hR : ∀ (b : PySem.Str) (r : List PySem.Str) (S : Sto) (q : SK), PyData.strOk b = true → (∀ x ∈ r, PyData.strOk x = true) → r.length ≤ 1000 → q (.bl (gwB go r b)) S → R (callS0 Pr g k) [.str b, .tup (wS_ r)] S q)
    (q : ∀ D : List (List PySem.Str), D.Nodup → (∀ r, r ∈ D ↔ Mx go (L.take (n + 1)) r) → Q (.lst (D.map rS)) S) : callL Pr g (k + 2) "rows_with" (.lam a c cs ws) R [.lst (rows.map rS), .tuf (wS_ L), .int n, .lam a c cs ws] S Q := by
  have big : (100000 : Nat) ≤ sizeLine := by decide
  refine ⟨d_rows_with, pr, rfl, ?_⟩
  show wB _ _ d_rows_with.body _ [some (.lst (rows.map rS)), some (.tuf (wS_ L)), some (.int n), some (.lam a c cs ws), none, none, none, none, none, none] S
  unfold d_rows_with
  simp! only []
  obtain ⟨nm, hnm⟩ : ∃ nm, L[n]? = some nm := ⟨_, List.getElem?_eq_getElem hn⟩
  have nmL := List.mem_of_getElem? hnm
  have oknm := ok nm nmL
  have tk : L.take (n + 1) = L.take n ++ [nm] := by
    rw [List.take_add_one, hnm]
    rfl
  have ndP : (L.take n ++ [nm]).Nodup := by
    rw [← tk]
    exact nd.sublist (List.take_sublist _ _)
  have nmP : nm ∉ L.take n := fun h => (List.nodup_append.mp ndP).2.2 nm h nm (by simp) rfl
  have okP : ∀ x ∈ L.take n, PyData.strOk x = true := fun x hx => ok x (List.mem_of_mem_take hx)
  refine ⟨.str nm, atI_nat (by rw [List.getElem?_map, hnm]; rfl), ?_⟩
  simp! only []
  intro p hp
  refine for_inv (fun i ρ S' => ∃ (D : List (List PySem.Str)) (vs : List SV) (v6 v7 v8 : Option SV), ρ = [some (.lst (rows.map rS)), some (.tuf (wS_ L)), some (.int n), some (.lam a c cs ws), some (.str nm), some (.own p), v6, v7, v8, none] ∧ S' p = some (.dT (D.map kx) vs) ∧ D.length = vs.length ∧ D.length ≤ 2 * i ∧ D.Nodup ∧
    (∀ z, z ∈ D ↔ ∃ r ∈ rows.take i, stepR go (L.take n) nm r z) ∧ ∀ b, b ≠ p → S' b = S b)
    ⟨[], [], none, none, none, rfl, supd_same, rfl, by simp, List.nodup_nil, fun z => by simp, fun b h => supd_ne h⟩ ?_ ?_
  · rintro i y ρ S1 D' hy ⟨D, vs, v6, v7, v8, rfl, hD, hl, hli, hnd, hm, fr⟩ nx _ _ _
    rw [List.getElem?_map] at hy
    obtain ⟨r, hrr, rfl⟩ := Option.map_eq_some_iff.mp hy
    have hi := (List.getElem?_eq_some_iff.mp hrr).1
    have hMx := (hr r).mp (List.mem_of_getElem? hrr)
    have rP : ∀ x ∈ r, x ∈ L.take n := fun x hx => hMx.sub.subset hx
    have okr : ∀ x ∈ r, PyData.strOk x = true := fun x hx => okP x (rP x hx)
    have lenr : r.length ≤ 14 := by
      have := hMx.sub.length_le
      rw [List.length_take] at this
      omega
    have tki : rows.take (i + 1) = rows.take i ++ [r] := by
      rw [List.take_add_one, hrr]
      rfl
    simp! only [wipeR, List.map_cons, List.map_nil]
    -- kept
    refine lc_on SV.str (fun b => if go nm b = true then some (SV.str b) else none) (by omega) (fun b hb kk kf h1 h2 => ?_) ?_
    · simp! only []
      refine ⟨_, _, _, _, rfl, calL_is, ?_⟩
      simp! only [List.length_cons, List.length_nil]
      refine ⟨by omega, calL_lam ?_⟩
      refine hR b [nm] _ _ (okr b hb) (fun x hx => by rw [List.mem_singleton.mp hx]; exact oknm) (by simp) ?_
      have e : gwB go [nm] b = go nm b := by
        have hbn : b ≠ nm := fun e => nmP (e ▸ rP b hb)
        simp [gwB, hbn]
      rw [e]
      simp! only []
      by_cases z : go nm b = true
      · simp only [z, if_true] at h1 h2 ⊢
        exact h1 _ rfl
      · rw [Bool.not_eq_true] at z
        simp only [z, Bool.false_eq_true, if_false] at h1 h2 ⊢
        exact h2 trivial
    rw [fm_ite]
    generalize hK : r.filter (fun b => go nm b) = kp
    have kpr : ∀ x ∈ kp, x ∈ r := fun x hx => by
      rw [← hK] at hx
      exact (List.mem_filter.mp hx).1
    have lenk : kp.length ≤ r.length := by
      rw [← hK]
      exact List.length_filter_le _ _
    have okw : ∀ x ∈ kp ++ [nm], PyData.strOk x = true := fun x hx => by
      rcases List.mem_append.mp hx with hx | hx
      · exact okr x (kpr x hx)
      · rw [List.mem_singleton.mp hx]; exact oknm
    simp! only [List.length_map]
    refine ⟨by omega, ?_⟩
    have stp : ∀ z, stepR go (L.take n) nm r z ↔ (z = r ∧ kp.length < r.length) ∨ (z = kp ++ [nm] ∧ ∀ a ∈ L.take n, gwB go (kp ++ [nm]) a = false) := fun z => by
      unfold stepR
      rw [hK]
    refine ite_set (fun S2 => ∃ (D1 : List (List PySem.Str)) (vs1 : List SV), S2 p = some (.dT (D1.map kx) vs1) ∧ D1.length = vs1.length ∧ D1.length ≤ 2 * i + 1 ∧ D1.Nodup ∧ (∀ z, z ∈ D1 ↔ z ∈ D ∨ (z = r ∧ kp.length < r.length)) ∧ (∀ b, b ≠ p → S2 b = S b)) (fun hlt => ?_) (fun hlt => ?_) ?_
    · rw [set_dT hD]
      obtain ⟨m1, m2, m3⟩ := putX_mem (k := kx r) (v := .bl true) (show (D.map kx).length = vs.length by rw [List.length_map]; exact hl)
      have e1 := put_rows (D := D) (l := vs) (r := r) (v := .bl true)
      rw [e1] at m1 ⊢
      rw [List.length_map] at m1 ⊢
      refine ⟨by omega, addR D r, _, supd_same, m1, ?_, nd_addR hnd, fun z => ?_, fun b h => by rw [supd_ne h]; exact fr b h⟩
      · have := len_addR D r
        omega
      · rw [mem_addR]
        simp [show kp.length < r.length by omega]
    · exact ⟨D, vs, hD, hl, by omega, hnd, fun z => by simp [show ¬ kp.length < r.length by omega], fr⟩
    · rintro S2 ⟨D1, vs1, hD1, hl1, hli1, hnd1, hm1, fr1⟩
      simp! only [List.length_cons, List.length_nil]
      refine ⟨by omega, ?_⟩
      refine add_row (.inr rfl) (by omega) ?_
      simp! only []
      refine sl_row (.inr rfl) fun y hy => ?_
      rw [cut_to] at hy
      have hyit : ∀ q : List SV → Prop, itS .seq [y] S2 q = q (wS_ (L.take n)) := fun q => it_row hy
      simp! only [hyit, wipeR, List.map_cons, List.map_nil]
      have lt' : (L.take n).length ≤ 14 := by rw [List.length_take]; omega
      refine lc_on SV.str (fun b => if gwB go (kp ++ [nm]) b = true then some (SV.str b) else none) (by omega) (fun b hb kk kf h1 h2 => ?_) ?_
      · simp! only []
        refine ⟨_, _, _, _, rfl, calL_is, ?_⟩
        simp! only []
        refine calL_lam ?_
        refine hR b (kp ++ [nm]) _ _ (okP b hb) okw (by rw [List.length_append, List.length_singleton]; omega) ?_
        simp! only []
        by_cases z : gwB go (kp ++ [nm]) b = true
        · simp only [z, if_true] at h1 h2 ⊢
          exact h1 _ rfl
        · rw [Bool.not_eq_true] at z
          simp only [z, Bool.false_eq_true, if_false] at h1 h2 ⊢
          exact h2 trivial
      rw [fm_ite]
      have hl3 := List.length_filter_le (fun b => gwB go (kp ++ [nm]) b) (L.take n)
      simp! only [List.length_map, List.length_nil]
      refine ⟨by exact Nat.le_trans hl3 (by omega), by omega, ?_⟩
      rw [eqS_lw0 fun b hb => okP b (List.mem_filter.mp hb).1]
      have ez : (List.filter (fun b => gwB go (kp ++ [nm]) b) (L.take n) = []) ↔ ∀ a ∈ L.take n, gwB go (kp ++ [nm]) a = false := by
        rw [List.filter_eq_nil_iff]
        simp
      by_cases z : List.filter (fun b => gwB go (kp ++ [nm]) b) (L.take n) = []
      · simp! only [z]
        rw [show SV.tup (wS_ (kp ++ [nm])) = rS (kp ++ [nm]) from rfl, set_dT hD1]
        obtain ⟨m1, m2, m3⟩ := putX_mem (k := kx (kp ++ [nm])) (v := .bl true) (show (D1.map kx).length = vs1.length by rw [List.length_map]; exact hl1)
        have e1 := put_rows (D := D1) (l := vs1) (r := kp ++ [nm]) (v := .bl true)
        rw [e1] at m1 ⊢
        rw [List.length_map] at m1 ⊢
        refine ⟨by omega, nx _ _ ⟨addR D1 (kp ++ [nm]), _, _, _, _, rfl, supd_same, m1, ?_, nd_addR hnd1, fun z' => ?_, fun b h => by rw [supd_ne h]; exact fr1 b h⟩⟩
        · have := len_addR D1 (kp ++ [nm])
          omega
        · rw [mem_addR, hm1, hm, tki]
          simp only [List.mem_append, List.mem_singleton]
          constructor
          · rintro ((⟨r', h1, h2⟩ | h) | h)
            · exact ⟨r', .inl h1, h2⟩
            · exact ⟨r, .inr rfl, (stp z').mpr (.inl h)⟩
            · exact ⟨r, .inr rfl, (stp z').mpr (.inr ⟨h, ez.mp z⟩)⟩
          · rintro ⟨r', (h1 | rfl), h2⟩
            · exact .inl (.inl ⟨r', h1, h2⟩)
            · rcases (stp z').mp h2 with h | h
              · exact .inl (.inr h)
              · exact .inr h.1
      · simp! only [z]
        refine nx _ _ ⟨D1, vs1, _, _, _, rfl, hD1, hl1, by omega, hnd1, fun z' => ?_, fr1⟩
        rw [hm1, hm, tki]
        simp only [List.mem_append, List.mem_singleton]
        constructor
        · rintro (⟨r', h1, h2⟩ | h)
          · exact ⟨r', .inl h1, h2⟩
          · exact ⟨r, .inr rfl, (stp z').mpr (.inl h)⟩
        · rintro ⟨r', (h1 | rfl), h2⟩
          · exact .inl ⟨r', h1, h2⟩
          · rcases (stp z').mp h2 with h | h
            · exact .inr h
            · exact absurd (ez.mpr h.2) z
  · rintro ρ S1 ⟨D, vs, v6, v7, v8, rfl, hD, hl, hli, hnd, hm, fr⟩
    refine ⟨p, wo S1 p, .dT (D.map kx) vs, rfl, wo_sub, .dT hD wo_same, ?_⟩
    rw [wo_back hp fr]
    simp! only [list_rows, List.length_map]
    rw [List.length_map] at hli
    refine ⟨by omega, fin_same (q D hnd fun r => ?_)⟩
    rw [hm, List.length_map, List.take_length, tk, mx_step sy ndP]
    constructor
    · rintro ⟨r', h1, h2⟩
      exact ⟨r', (hr r').mp h1, h2⟩
    · rintro ⟨r', h1, h2⟩
      exact ⟨r', (hr r').mpr h1, h2⟩
end
end Sy

namespace Sy
open PySem PySem.Spec PyProof.Rows L2
local macro_rules | `(tactic| simp! only [$ls,*]) => `(tactic| try simp only [callX_fold, mnA, mxA, strS, wB, wS, wT, wE, wA, wO, wC, tgS, binS, cmpS, biS, r1, r2, mtS, augS, cstS, splitS, opI_int, add_int, add_str, add_tup, add_ll, newL_f, newL_t, mul_int, ord_int, ord_str, int_int, int_bl, mn_int, mx_int, mn_str, mx_str, tuple_tup, tuple_tuf, tuple_lst, tuple_lstT, sl_lst, sl_tup, sl_scr, sl_str, it_lst, it_str, it_tup, it_tuf, it_enU, it_zU, it_rng1, it_rng2, it_enL, it_enT, it_zL, it_zT, List.set_cons_zero, List.set_cons_succ, List.getElem?_cons_zero, List.getElem?_cons_succ, some_ex, some_ex2, bl_ex, int_ex, eqS_int, idx_lst, idx_tup, idx_tuf, idx_str, len_lst, len_tup, len_tuf, len_scr, at_0, at_1, at_2, true_and, and_true, Int.fmod_eq_emod_of_nonneg, Int.fdiv_eq_ediv_of_nonneg, ne_eq, reduceCtorEq, not_false_eq_true, if_true, if_false, Bool.false_eq_true, decide_eq_true_eq, Int.reduceEq, Int.reduceLE, Int.reduceLT, $ls,*])
/-! ### rows sorted, however they are told -/
section
variable {enc : List PySem.Str → SV} (he : ∀ r, Isr (enc r) r)
include he
theorem toD_enc (r : List PySem.Str) : toD (enc r) = some (.tuple (r.map PyData.str)) := by
  rcases he r with h | h <;> rw [h]
  · exact toD_row r
  · show (toDs (wS_ r)).map PyData.tuple = _
    rw [toDs_words]
    rfl
theorem toDs_enc : ∀ l : List (List PySem.Str), toDs (l.map enc) = some (l.map fun r => PyData.tuple (r.map PyData.str))
  | [] => rfl
  | a :: l => by
    show (toD (enc a)).bind (fun d => (toDs (l.map enc)).map fun r => d :: r) = _
    rw [toDs_enc l, toD_enc he a]
    rfl
theorem datE_enc (r : List PySem.Str) : datE (enc r) = .tuple (r.map PyData.str) := by
  unfold datE
  rw [toD_enc he]
  rfl
theorem srt_enc (l : List (List PySem.Str)) : srtL (l.map enc) = (l.mergeSort rle).map enc := by
  unfold srtL
  refine (List.map_mergeSort fun a _ b _ => ?_).symm
  rw [PySem.W.dataLe_eq]
  show rle a b = !PySem.W.dataLt (datE (enc b)) (datE (enc a))
  rw [datE_enc he, datE_enc he, PySem.W.dataLt_tuple, lex_words]
  exact (not_lt_le2 _ _).symm
theorem sorted_encE {S : Sto} {x : SV} {own : Bool} {k : SK} {rs : List (List PySem.Str)} (h1 : srcOf S x = some (rs.map enc)) : sortedS own x S k = newL own ((rs.mergeSort rle).map enc) S k := by
  rw [sorted_srcO h1 (toDs_enc he rs) ?_ (.inr (.inr ?_)) ?_, srt_enc he]
  · intro d hd d' hd'
    obtain ⟨a, _, rfl⟩ := List.mem_map.mp hd
    obtain ⟨b, _, rfl⟩ := List.mem_map.mp hd'
    show PySem.W.alike (.tuple _) (.tuple _) = true
    rw [PySem.W.alike]
    exact alike_words a b
  · intro d hd
    obtain ⟨a, _, rfl⟩ := List.mem_map.mp hd
    exact ⟨_, rfl⟩
  · intro d hd
    obtain ⟨a, _, rfl⟩ := List.mem_map.mp hd
    simp [PyData.depth, depth_words]
theorem sorted_enc {S : Sto} {x : SV} {own : Bool} {k : SK} {rs : List (List PySem.Str)} (h1 : srcOf S x = some (rs.map enc)) (_ : (∀ r ∈ rs, r ≠ []) ∨ rs.length ≤ 1) : sortedS own x S k = newL own ((rs.mergeSort rle).map enc) S k := sorted_encE he h1
end
theorem perm_of {α : Type} [DecidableEq α] {A B : List α} (hA : A.Nodup) (hB : B.Nodup) (h : ∀ x, x ∈ A ↔ x ∈ B) : A.Perm B := by
  refine List.perm_iff_count.mpr fun x => ?_
  rw [hA.count, hB.count]
  simp [h x]
theorem sort_perm {A B : List (List PySem.Str)} (h : A.Perm B) : A.mergeSort rle = B.mergeSort rle := by
  refine List.Perm.eq_of_pairwise (fun a b _ _ h1 h2 => rle_anti h1 h2) (List.pairwise_mergeSort rle_trans rle_total A) (List.pairwise_mergeSort rle_trans rle_total B) ?_
  exact (List.mergeSort_perm A rle).trans (h.trans (List.mergeSort_perm B rle).symm)
/-! ### all greatest rows, of covers least ones, in order -/
def rowsN (L : List PySem.Str) (T : List (List PySem.Str)) (kind : PySem.Str) : List (List PySem.Str) := (mxIt (goT T kind) L).mergeSort rle
def rowsK (L : List PySem.Str) (T : List (List PySem.Str)) (kind : PySem.Str) : List (List PySem.Str) := if kind = "cover" then ((rowsN L T "apart").map (resL L)).mergeSort rle else rowsN L T kind
theorem mem_rowsN {L : List PySem.Str} {T : List (List PySem.Str)} {kind : PySem.Str} {r : List PySem.Str} : r ∈ rowsN L T kind ↔ Mx (goT T kind) L r := by
  unfold rowsN
  rw [(List.mergeSort_perm _ rle).mem_iff, mem_mxL]
theorem nd_rowsN {L : List PySem.Str} {T : List (List PySem.Str)} {kind : PySem.Str} (h : L.Nodup) : (rowsN L T kind).Nodup := (List.mergeSort_perm _ rle).nodup_iff.mpr (nd_mxL h)
theorem len_rowsN {L : List PySem.Str} {T : List (List PySem.Str)} {kind : PySem.Str} (h : L.length ≤ 14) : (rowsN L T kind).length ≤ 16384 := by
  unfold rowsN
  rw [List.length_mergeSort]
  have h1 := len_mxL (goT T kind) L
  have h2 : 2 ^ L.length ≤ 2 ^ 14 := Nat.pow_le_pow_right (by decide) h
  omega
theorem len_rowsK {L : List PySem.Str} {T : List (List PySem.Str)} {kind : PySem.Str} (h : L.length ≤ 14) : (rowsK L T kind).length ≤ 16384 := by
  unfold rowsK
  split
  · rw [List.length_mergeSort, List.length_map]
    exact len_rowsN h
  · exact len_rowsN h
theorem res_sub (L R : List PySem.Str) : (resL L R).Sublist L := List.filter_sublist
theorem mem_rowsK_cover {L : List PySem.Str} {T : List (List PySem.Str)} {r : List PySem.Str} : r ∈ rowsK L T "cover" ↔ ∃ s, Mx (goT T "apart") L s ∧ r = resL L s := by
  unfold rowsK
  rw [if_pos rfl, (List.mergeSort_perm _ rle).mem_iff, List.mem_map]
  constructor
  · rintro ⟨s, h1, h2⟩
    exact ⟨s, mem_rowsN.mp h1, h2.symm⟩
  · rintro ⟨s, h1, h2⟩
    exact ⟨s, mem_rowsN.mpr h1, h2.symm⟩
theorem rowsK_sub {L : List PySem.Str} {T : List (List PySem.Str)} {kind r : PySem.Str} {r : List PySem.Str} (h : r ∈ rowsK L T kind) : r.Sublist L := by
  by_cases e : kind = "cover"
  · subst e
    obtain ⟨s, _, rfl⟩ := mem_rowsK_cover.mp h
    exact res_sub L s
  · unfold rowsK at h
    rw [if_neg e] at h
    exact (mem_rowsN.mp h).sub
/-- an empty row is alone -/
theorem mx_ne {go : PySem.Str → PySem.Str → Bool} {P : List PySem.Str} {D : List (List PySem.Str)} (nd : D.Nodup) (h : ∀ r, r ∈ D ↔ Mx go P r) : (∀ r ∈ D, r ≠ []) ∨ D.length ≤ 1 := by
  by_cases hP : P = []
  · right
    subst hP
    have : ∀ r ∈ D, r = [] := fun r hr => List.eq_nil_of_sublist_nil ((h r).mp hr).sub
    match D, nd, this with
    | [], _, _ => simp
    | [_], _, _ => simp
    | a :: b :: _, nd, this =>
      have e1 := this a (by simp)
      have e2 := this b (by simp)
      rw [e1, e2] at nd
      simp at nd
  · left
    intro r hr e
    subst e
    obtain ⟨a, ha⟩ := List.exists_mem_of_ne_nil _ hP
    have := ((h []).mp hr).mx a ha
    simp [gwB] at this
theorem res_ne {L : List PySem.Str} {T : List (List PySem.Str)} (hL : L.Nodup) : (∀ r ∈ (rowsN L T "apart").map (resL L), r ≠ []) ∨ ((rowsN L T "apart").map (resL L)).length ≤ 1 := by
  by_cases h : ∃ s ∈ rowsN L T "apart", resL L s = []
  · right
    obtain ⟨s, hs, e⟩ := h
    have hs := mem_rowsN.mp hs
    have all : ∀ a ∈ L, a ∈ s := fun a ha => by
      refine Classical.byContradiction fun hn => ?_
      have : a ∈ resL L s := mem_resL.mpr ⟨ha, hn⟩
      rw [e] at this
      cases this
    have one : ∀ r ∈ rowsN L T "apart", r = s := fun r hr => by
      have hr := mem_rowsN.mp hr
      exact hr.eq_of (goT_sy T "apart") hL hs.sub hs.cl fun x hx => all x (hr.sub.subset hx)
    rw [List.length_map]
    have nd := nd_rowsN (T := T) (kind := "apart") hL
    match hD : rowsN L T "apart" with
    | [] => simp
    | [_] => simp
    | a :: b :: _ =>
      rw [hD] at nd one
      have e1 := one a (by simp)
      have e2 := one b (by simp)
      rw [e1, e2] at nd
      simp at nd
  · left
    intro r hr e
    obtain ⟨s, hs, rfl⟩ := List.mem_map.mp hr
    exact h ⟨s, hs, e⟩
section
variable {Pr : PySem.Str → Option Def} {g : PySem.Str → Option SV}
theorem all_rowsN_ok (pt : Pr "tied_pairs" = some d_tied_pairs) (pg : Pr "go_together" = some d_go_together) (pw : Pr "goes_with" = some d_goes_with) (pr : Pr "rows_with" = some d_rows_with) (pa : Pr "all_rows" = some d_all_rows)
    {k : Nat} {S : Sto} {L : List PySem.Str} {T : List (List PySem.Str)} {kind : PySem.Str} {Q : SK} (hc : ¬ kind = "cover") (hkind : PyData.strOk kind = true) (hL : L.length ≤ 14) (nd : L.Nodup) (ok : ∀ x ∈ L, PyData.strOk x = true)
    (okT : ∀ r ∈ T, ∃ a b, r = [a, b]) (hT : T.length ≤ 9900) (q : Q (.lst ((rowsN L T kind).map rS)) S) : callS Pr g (k + 5) "all_rows" [webS L T, .str kind] S Q := by
  have big : (100000 : Nat) ≤ sizeLine := by decide
  refine ⟨d_all_rows, pa, rfl, ?_⟩
  show wB _ _ d_all_rows.body _ [some (webS L T), some (.str kind), none, none, none, none, none, none, none] S
  unfold d_all_rows
  simp! only [eqS_str hkind (show PyData.strOk "cover" = true by decide +kernel)]
  rw [if_neg hc]
  refine tied_pairs_ok pt okT hT fun ks vs hP => ?_
  simp! only [List.length_cons, List.length_nil, List.length_map]
  refine ⟨by omega, by omega, by omega, by omega, ?_⟩
  refine for_inv (fun i ρ S' => S' = S ∧ ∃ (D : List (List PySem.Str)) (v5 : Option SV), ρ = [some (webS L T), some (.str kind), some (.tuf (wS_ L)), some (.dT ks vs), some (.lst (D.map rS)), v5, none, none, none] ∧ D.Nodup ∧ ∀ r, r ∈ D ↔ Mx (goT T kind) (L.take i) r)
    ⟨rfl, [[]], none, rfl, by simp, fun r => ?_⟩ ?_ ?_
  · constructor
    · intro h
      rw [List.mem_singleton.mp h]
      exact ⟨List.Sublist.refl _, fun x h => (nomatch h), fun x h => (nomatch h)⟩
    · intro h
      rw [List.eq_nil_of_sublist_nil h.sub]
      exact List.mem_singleton.mpr rfl
  · rintro i y ρ S' D' hy ⟨rfl, D, v5, rfl, hnd, hm⟩ nx _ _ _
    obtain ⟨rfl, hi⟩ := rng_at hy
    have hi : i < L.length := by
      simpa using hi
    simp! only [capt, Option.bind_some, Option.map_some]
    refine ⟨by omega, fun p c ws => ?_⟩
    have hlen : D.length ≤ 16384 := by
      have h1 := (perm_of hnd (nd_mxL (go := goT T kind) (nd.sublist (List.take_sublist i L))) fun r => (hm r).trans mem_mxL.symm).length_eq
      have h2 := len_mxL (goT T kind) (L.take i)
      have h3 : 2 ^ (L.take i).length ≤ 2 ^ 14 := Nat.pow_le_pow_right (by decide) (by rw [List.length_take]; omega)
      omega
    rw [show (0 : Int) + (i : Int) = ((i : Nat) : Int) by omega]
    refine rows_with_ok (k := k + 2) pr (goT_sy T kind) hL nd ok hi hm hlen (fun b r S q' okb okr hr hq => ?_) fun D2 hnd2 hm2 => nx _ _ ⟨rfl, D2, _, rfl, hnd2, hm2⟩
    refine ⟨rfl, ?_⟩
    simp! only [List.map_cons, List.map_nil, List.cons_append, List.nil_append]
    exact goes_with_ok0 pg pw hP hkind okb okr hr (fin_same hq)
  · rintro ρ S' ⟨rfl, D, v5, rfl, hnd, hm⟩
    rw [rng_ln] at hm
    have eL : L.take ((L.length : Int)).toNat = L := by
      rw [show ((L.length : Int)).toNat = L.length by omega, List.take_length]
    rw [eL] at hm
    have hp := perm_of hnd (nd_mxL (go := goT T kind) nd) fun r => (hm r).trans mem_mxL.symm
    have hlen := len_rowsN (T := T) (kind := kind) hL
    simp! only []
    rw [sorted_enc (enc := rS) (fun r => .inl rfl) (show srcOf S' (.lst (D.map rS)) = some (D.map rS) from rfl) (mx_ne hnd hm), sort_perm hp]
    simp! only []
    refine ⟨?_, fin_same q⟩
    rw [List.length_map]
    have : (rowsN L T kind).length = ((mxIt (goT T kind) L).mergeSort rle).length := rfl
    omega
theorem all_rows_ok (pt : Pr "tied_pairs" = some d_tied_pairs) (pg : Pr "go_together" = some d_go_together) (pw : Pr "goes_with" = some d_goes_with) (pr : Pr "rows_with" = some d_rows_with) (pa : Pr "all_rows" = some d_all_rows)
    {k : Nat} {S : Sto} {L : List PySem.Str} {T : List (List PySem.Str)} {kind : PySem.Str} {Q : SK} (hkind : PyData.strOk kind = true) (hL : L.length ≤ 14) (nd : L.Nodup) (ok : ∀ x ∈ L, PyData.strOk x = true)
    (okT : ∀ r ∈ T, ∃ a b, r = [a, b]) (hT : T.length ≤ 9900) (q : ∀ enc : List PySem.Str → SV, (∀ r, Isr (enc r) r) → Q (.lst ((rowsK L T kind).map enc)) S) : callS Pr g (k + 6) "all_rows" [webS L T, .str kind] S Q := by
  have big : (100000 : Nat) ≤ sizeLine := by decide
  by_cases hc : kind = "cover"
  · subst hc
    refine ⟨d_all_rows, pa, rfl, ?_⟩
    show wB _ _ d_all_rows.body _ [some (webS L T), some (.str "cover"), none, none, none, none, none, none, none] S
    unfold d_all_rows
    simp! only [eqS_str (show PyData.strOk "cover" = true by decide +kernel) (show PyData.strOk "cover" = true by decide +kernel)]
    refine all_rowsN_ok (k := k) pt pg pw pr pa (by decide +kernel) (by decide +kernel) hL nd ok okT hT ?_
    have hlen := len_rowsN (T := T) (kind := "apart") hL
    simp! only [wipeR, List.map_cons, List.map_nil]
    refine lc_on rS (fun r => some (uS (resL L r))) (by omega) (fun r hr kk kf h1 _ => ?_) ?_
    · have hr := mem_rowsN.mp hr
      simp! only [wipeR, List.map_cons, List.map_nil]
      refine lc_on SV.str (fun a => if decide (a ∉ r) = true then some (SV.str a) else none) (by omega) (fun a ha kk2 kf2 g1 g2 => ?_) ?_
      · simp! only [inK_tup, in_words (ok a ha) (fun x hx => ok x (hr.sub.subset hx)), Bool.true_xor]
        by_cases z : a ∈ r
        · simp only [z, not_true, decide_false, decide_true, Bool.not_true, Bool.false_eq_true, if_false] at g1 g2 ⊢
          exact g2 trivial
        · simp only [z, not_false_eq_true, decide_true, decide_false, Bool.not_false, if_true] at g1 g2 ⊢
          exact g1 _ rfl
      · rw [fm_ite]
        have := res_len L r
        simp! only [List.length_map]
        exact ⟨by show (resL L r).length ≤ sizeLine; omega, h1 _ rfl⟩
    · rw [List.filterMap_eq_map']
      simp! only [List.length_map]
      refine ⟨by omega, ?_⟩
      have e : (rowsN L T "apart").map (fun r => uS (resL L r)) = ((rowsN L T "apart").map (resL L)).map uS := by rw [List.map_map]; rfl
      rw [sorted_enc (enc := uS) (fun r => .inr rfl) (show srcOf S (.lst _) = some (((rowsN L T "apart").map (resL L)).map uS) by rw [← e]; rfl) (res_ne nd)]
      simp! only [List.length_map, List.length_mergeSort]
      refine ⟨by omega, fin_same ?_⟩
      have := q uS (fun r => .inr rfl)
      unfold rowsK at this
      rw [if_pos rfl] at this
      exact this
  · refine all_rowsN_ok (k := k + 1) pt pg pw pr pa hc hkind hL nd ok okT hT ?_
    have := q rS (fun r => .inl rfl)
    unfold rowsK at this
    rw [if_neg hc] at this
    exact this
end
end Sy

namespace Sy
open PySem PySem.Spec PyProof.Rows L2
/-! ### whole numbers in lists -/
mutual
theorem eqv_self : ∀ d : PyData, d.canLay0 = true → PyData.eqv d d = true
  | .none, _ => rfl
  | .bool b, _ => by simp [PyData.eqv]
  | .int i, _ => by simp [PyData.eqv]
  | .str x, _ => by simp [PyData.eqv]
  | .list xs, h => by
    rw [PyData.eqv]
    exact eqvAll_self xs (by simpa [PyData.canLay0] using h)
  | .tuple xs, h => by
    rw [PyData.eqv]
    exact eqvAll_self xs (by simpa [PyData.canLay0] using h)
  | .dict _, h => nomatch h
theorem eqvAll_self : ∀ xs : List PyData, PyData.canLayAll0 xs = true → PyData.eqvAll xs xs = true
  | [], _ => rfl
  | x :: xs, h => by
    have h' : x.canLay0 = true ∧ PyData.canLayAll0 xs = true := by simpa [PyData.canLayAll0] using h
    rw [PyData.eqvAll, eqv_self x h'.1, eqvAll_self xs h'.2]
    rfl
end
/-! ### a dict of how many -/
/-! ### the least and the most -/
end Sy

namespace Sy
open PySem PySem.Spec PyProof.Rows L2
local macro_rules | `(tactic| simp! only [$ls,*]) => `(tactic| try simp only [callX_fold, mnA, mxA, strS, wB, wS, wT, wE, wA, wO, wC, tgS, binS, cmpS, biS, r1, r2, mtS, augS, cstS, splitS, opI_int, add_int, add_str, add_tup, add_ll, newL_f, newL_t, mul_int, ord_int, ord_str, int_int, int_bl, mn_int, mx_int, mn_str, mx_str, tuple_tup, tuple_tuf, tuple_lst, tuple_lstT, sl_lst, sl_tup, sl_scr, sl_str, it_lst, it_str, it_tup, it_tuf, it_enU, it_zU, it_rng1, it_rng2, it_enL, it_enT, it_zL, it_zT, List.set_cons_zero, List.set_cons_succ, List.getElem?_cons_zero, List.getElem?_cons_succ, some_ex, some_ex2, bl_ex, int_ex, eqS_int, idx_lst, idx_tup, idx_tuf, idx_str, len_lst, len_tup, len_tuf, len_scr, at_0, at_1, at_2, true_and, and_true, Int.fmod_eq_emod_of_nonneg, Int.fdiv_eq_ediv_of_nonneg, ne_eq, reduceCtorEq, not_false_eq_true, if_true, if_false, Bool.false_eq_true, decide_eq_true_eq, Int.reduceEq, Int.reduceLE, Int.reduceLT, $ls,*])
theorem nd_len {α : Type} [DecidableEq α] {A B : List α} (hA : A.Nodup) (hB : B.Nodup) (h : ∀ x ∈ A, x ∈ B) : A.length ≤ B.length := by
  have hp := perm_of hA (hB.filter fun x => decide (x ∈ A)) fun x => by
    rw [List.mem_filter, decide_eq_true_eq]
    exact ⟨fun hx => ⟨h x hx, hx⟩, fun hx => hx.2⟩
  rw [hp.length_eq]
  exact List.length_filter_le _ _
section
variable {Pr : PySem.Str → Option Def} {g : PySem.Str → Option SV}
end
end Sy

namespace Sy
def d_next_row : Def := ⟨["web", "kind", "row"], ["web", "kind", "row", "rows", "behind"],
 (.cons (.asg (.one 3 "rows") (.call "all_rows" (.cons (.var 0 "web") (.cons (.var 1 "kind") .nil))))
 (.cons (.ifs (.cmp .NotIn (.var 2 "row") (.var 3 "rows")) (.cons .never
 .nil) .nil)
 (.cons (.asg (.one 4 "behind") (.sl false (.var 3 "rows") (.some (.bin .Add false (.mt .index false (.var 3 "rows") (.cons (.var 2 "row") .nil)) (.cst (.int 1)))) .none))
 (.cons (.ifs (.cmp .Eq (.var 4 "behind") (.lst false .nil)) (.cons (.ret (.cst .none))
 .nil) .nil)
 (.cons (.ret (.idx (.var 4 "behind") (.cst (.int 0))))
 .nil)))))⟩

end Sy

namespace Sy
open PySem PySem.Spec PyProof.Rows L2
local macro_rules | `(tactic| simp! only [$ls,*]) => `(tactic| try simp only [callX_fold, mnA, mxA, strS, wB, wS, wT, wE, wA, wO, wC, tgS, binS, cmpS, biS, r1, r2, mtS, augS, cstS, splitS, opI_int, add_int, add_str, add_tup, add_ll, newL_f, newL_t, mul_int, ord_int, ord_str, int_int, int_bl, mn_int, mx_int, mn_str, mx_str, tuple_tup, tuple_tuf, tuple_lst, tuple_lstT, sl_lst, sl_tup, sl_scr, sl_str, it_lst, it_str, it_tup, it_tuf, it_enU, it_zU, it_rng1, it_rng2, it_enL, it_enT, it_zL, it_zT, List.set_cons_zero, List.set_cons_succ, List.getElem?_cons_zero, List.getElem?_cons_succ, some_ex, some_ex2, bl_ex, int_ex, eqS_int, idx_lst, idx_tup, idx_tuf, idx_str, len_lst, len_tup, len_tuf, len_scr, at_0, at_1, at_2, true_and, and_true, Int.fmod_eq_emod_of_nonneg, Int.fdiv_eq_ediv_of_nonneg, ne_eq, reduceCtorEq, not_false_eq_true, if_true, if_false, Bool.false_eq_true, decide_eq_true_eq, Int.reduceEq, Int.reduceLE, Int.reduceLT, $ls,*])
theorem isr_enc (x : SV) (a : List PySem.Str) (h : Isr x a) : toD x = some (rowD a) := by
  rcases h with h | h <;> rw [h]
  · exact toD_row a
  · exact toD_uS a
section
variable {enc : List PySem.Str → SV} (he : ∀ r, Isr (enc r) r)
include he
theorem toDs_encD (l : List (List PySem.Str)) : toDs (l.map enc) = some (l.map rowD) := toDs_enc he l
theorem toDS_encL {S : Sto} (l : List (List PySem.Str)) : toDS S (.lst (l.map enc)) = some (.list (l.map rowD)) := by
  show (toDs (l.map enc)).map PyData.list = _
  rw [toDs_encD he]
  rfl
theorem in_enc {S : Sto} {x : SV} {a : List PySem.Str} {rs : List (List PySem.Str)} {neg : Bool} {k : SK} (hx : Isr x a) (oka : ∀ y ∈ a, PyData.strOk y = true) (ok : ∀ r ∈ rs, ∀ y ∈ r, PyData.strOk y = true) : inK neg x (.lst (rs.map enc)) S k = k (.bl (xor neg (decide (a ∈ rs)))) S := by
  rw [inK_lst, in_of (isr_enc x a hx) (toDs_encD he rs) (shaped_row oka) (shaped_rows ok), any_rows]
theorem index_enc {S : Sto} {x : SV} {a : List PySem.Str} {rs : List (List PySem.Str)} {k : SK} {i : Nat} (nd : rs.Nodup) (hx : Isr x a) (hi : rs[i]? = some a) (oka : ∀ y ∈ a, PyData.strOk y = true) (ok : ∀ r ∈ rs, ∀ y ∈ r, PyData.strOk y = true) (q : k (.int i) S) : lindexS (.lst (rs.map enc)) x S k := by
  refine ⟨_, _, _, i, rowD a, items_lst, toDs_encD he rs, isr_enc x a hx, shaped_rows ok, shaped_row oka, by rw [List.getElem?_map, hi]; rfl, ?_, fun m z hm hz => ?_, q⟩
  · rw [PyData.eqv, eqvAll_words]
    simp
  · rw [List.getElem?_map] at hz
    obtain ⟨r, hr, rfl⟩ := Option.map_eq_some_iff.mp hz
    rw [PyData.eqv, eqvAll_words, decide_eq_false_iff_not]
    intro e
    subst e
    have := nodup_ix nd hr hi
    omega
theorem eqS_enc0 {S : Sto} {A : List (List PySem.Str)} {q : Bool → Prop} (ok : ∀ r ∈ A, ∀ y ∈ r, PyData.strOk y = true) : eqS S (.lst (A.map enc)) (.lst []) q = q (decide (A = [])) := by
  rw [eqS_ll (B := []) (toDS_encL he A) rfl ok (fun r h => (nomatch h))]
end
theorem eqS_non {S : Sto} {q : Bool → Prop} : eqS S .non .non q = q true := by
  rw [eqS_of (show toDS S .non = some .none from rfl) rfl (by simp [SeqAt.shaped, PyData.canLay0, PyData.depth]) (by simp [SeqAt.shaped, PyData.canLay0, PyData.depth])]
  simp [PyData.eqv]
theorem six_at {i : Int} {P : SV → Prop} (h0 : 0 ≤ i) (h1 : i < 6) (q : ∀ m : Int, 0 ≤ m → m ≤ 14 → P (.int m)) : ∃ v, atI [SV.int 6, .int 6, .int 8, .int 10, .int 12, .int 14] i = some v ∧ P v := by
  have : i = 0 ∨ i = 1 ∨ i = 2 ∨ i = 3 ∨ i = 4 ∨ i = 5 := by omega
  rcases this with rfl | rfl | rfl | rfl | rfl | rfl
  · exact ⟨_, rfl, q 6 (by omega) (by omega)⟩
  · exact ⟨_, rfl, q 6 (by omega) (by omega)⟩
  · exact ⟨_, rfl, q 8 (by omega) (by omega)⟩
  · exact ⟨_, rfl, q 10 (by omega) (by omega)⟩
  · exact ⟨_, rfl, q 12 (by omega) (by omega)⟩
  · exact ⟨_, rfl, q 14 (by omega) (by omega)⟩
theorem ties_len {L : List PySem.Str} {T : List (List PySem.Str)} {n : Nat} (W : WebOk L T n) (hL : L.length ≤ 14) : T.length ≤ 9900 := by
  have h1 := nd_len W.tnd (pairs_nodup W.nd) W.sub
  have h2 := pairs_len L
  have h3 : L.length * (L.length - 1) ≤ 14 * 13 := Nat.mul_le_mul hL (by omega)
  omega
theorem ties_ab {L : List PySem.Str} {T : List (List PySem.Str)} {n : Nat} (W : WebOk L T n) : ∀ r ∈ T, ∃ a b, r = [a, b] := fun r hr => by
  obtain ⟨a, b, e, _⟩ := pairs_of_mem (W.sub r hr)
  exact ⟨a, b, e⟩
theorem rowsK_strOk {L : List PySem.Str} {T : List (List PySem.Str)} {kind : PySem.Str} (ok : ∀ x ∈ L, PyData.strOk x = true) : ∀ r ∈ rowsK L T kind, ∀ x ∈ r, PyData.strOk x = true := fun r hr x hx => ok x ((rowsK_sub (r := kind) hr).subset hx)
theorem res_inj {L A B : List PySem.Str} (hL : L.Nodup) (hA : A.Sublist L) (hB : B.Sublist L) (h : resL L A = resL L B) : A = B := by
  refine sub_ext hL hA hB fun x => ?_
  have key : ∀ {A B : List PySem.Str}, A.Sublist L → resL L A = resL L B → x ∈ A → x ∈ B := fun hA h hx => by
    refine Classical.byContradiction fun hn => ?_
    have : x ∈ resL L _ := mem_resL.mpr ⟨hA.subset hx, hn⟩
    rw [← h] at this
    exact (mem_resL.mp this).2 hx
  exact ⟨key hA h, key hB h.symm⟩
theorem nd_rowsK {L : List PySem.Str} {T : List (List PySem.Str)} {kind : PySem.Str} (h : L.Nodup) : (rowsK L T kind).Nodup := by
  unfold rowsK
  split
  · refine (List.mergeSort_perm _ rle).nodup_iff.mpr ?_
    rw [List.Nodup, List.pairwise_map]
    have := nd_rowsN (T := T) (kind := "apart") h
    rw [List.Nodup] at this
    refine List.Pairwise.imp_of_mem (fun {a b} ha hb hab e => hab (res_inj h (mem_rowsN.mp ha).sub (mem_rowsN.mp hb).sub e)) this
  · exact nd_rowsN h
theorem rowsN_ne {L : List PySem.Str} {T : List (List PySem.Str)} {kind : PySem.Str} (h : L.Nodup) : rowsN L T kind ≠ [] := fun e => by
  obtain ⟨Q, hQ, _⟩ := mx_of (go := goT T kind) (goT_sy T kind) h (R := []) (List.nil_sublist _) (fun x h => (nomatch h))
  have := mem_rowsN.mpr hQ
  rw [e] at this
  cases this
theorem rowsK_ne {L : List PySem.Str} {T : List (List PySem.Str)} {kind : PySem.Str} (h : L.Nodup) : 0 < (rowsK L T kind).length := by
  unfold rowsK
  split
  · rw [List.length_mergeSort, List.length_map]
    exact List.length_pos_iff.mpr (rowsN_ne h)
  · exact List.length_pos_iff.mpr (rowsN_ne h)
section
variable {Pr : PySem.Str → Option Def} {g : PySem.Str → Option SV}
theorem next_row_ok (pt : Pr "tied_pairs" = some d_tied_pairs) (pg : Pr "go_together" = some d_go_together) (pw : Pr "goes_with" = some d_goes_with) (pr : Pr "rows_with" = some d_rows_with) (pa : Pr "all_rows" = some d_all_rows) (px : Pr "next_row" = some d_next_row)
    {k : Nat} {S : Sto} {L : List PySem.Str} {T : List (List PySem.Str)} {kind : PySem.Str} {x : SV} {r : List PySem.Str} {i : Nat} {Q : SK} (hkind : PyData.strOk kind = true) (hL : L.length ≤ 14) (nd : L.Nodup) (ok : ∀ x ∈ L, PyData.strOk x = true)
    (okT : ∀ r ∈ T, ∃ a b, r = [a, b]) (hT : T.length ≤ 9900) (hx : Isr x r) (hi : (rowsK L T kind)[i]? = some r)
    (q1 : ∀ y r', (rowsK L T kind)[i + 1]? = some r' → Isr y r' → Q y S) (q2 : (rowsK L T kind)[i + 1]? = none → Q .non S) : callS Pr g (k + 7) "next_row" [webS L T, .str kind, x] S Q := by
  have big : (100000 : Nat) ≤ sizeLine := by decide
  refine ⟨d_next_row, px, rfl, ?_⟩
  show wB _ _ d_next_row.body _ [some (webS L T), some (.str kind), some x, none, none] S
  unfold d_next_row
  simp! only []
  refine all_rows_ok (k := k) pt pg pw pr pa hkind hL nd ok okT hT fun enc he => ?_
  have okr := rowsK_strOk (T := T) (kind := kind) ok
  have hm := List.mem_of_getElem? hi
  have hlen := len_rowsK (T := T) (kind := kind) hL
  simp! only []
  rw [in_enc he hx (okr r hm) okr]
  simp! only [hm, decide_true, Bool.true_xor, Bool.not_true]
  refine ⟨⟨_, rfl⟩, index_enc he (nd_rowsK nd) hx hi (okr r hm) okr ?_⟩
  simp! only []
  rw [show ((i : Int) + 1) = ((i : Nat) : Int) + 1 from rfl, cut_from, ← List.map_drop]
  have hdl : ((rowsK L T kind).drop (i + 1)).length ≤ 16384 := by rw [List.length_drop]; omega
  simp! only [List.length_map, List.length_nil]
  refine ⟨by omega, by omega, ?_⟩
  rw [eqS_enc0 he fun r hr => okr r (List.mem_of_mem_drop hr)]
  by_cases e : (rowsK L T kind).drop (i + 1) = []
  · simp! only [e, decide_true]
    refine fin_same (q2 ?_)
    have := List.drop_eq_nil_iff.mp e
    exact List.getElem?_eq_none this
  · simp! only [e, decide_false]
    match hd : (rowsK L T kind).drop (i + 1) with
    | [] => exact absurd hd e
    | r' :: rest =>
      simp! only [List.map_cons]
      refine fin_same (q1 _ r' ?_ (he r'))
      have := congrArg (fun l => l[0]?) hd
      simpa using this
end
end Sy

namespace Sy
open PySem PySem.Spec PyProof.Rows L2
local macro_rules | `(tactic| simp! only [$ls,*]) => `(tactic| try simp only [callX_fold, mnA, mxA, strS, wB, wS, wT, wE, wA, wO, wC, tgS, binS, cmpS, biS, r1, r2, mtS, augS, cstS, splitS, opI_int, add_int, add_str, add_tup, add_ll, newL_f, newL_t, mul_int, ord_int, ord_str, int_int, int_bl, mn_int, mx_int, mn_str, mx_str, tuple_tup, tuple_tuf, tuple_lst, tuple_lstT, sl_lst, sl_tup, sl_scr, sl_str, it_lst, it_str, it_tup, it_tuf, it_enU, it_zU, it_rng1, it_rng2, it_enL, it_enT, it_zL, it_zT, List.set_cons_zero, List.set_cons_succ, List.getElem?_cons_zero, List.getElem?_cons_succ, some_ex, some_ex2, bl_ex, int_ex, eqS_int, idx_lst, idx_tup, idx_tuf, idx_str, len_lst, len_tup, len_tuf, len_scr, at_0, at_1, at_2, true_and, and_true, Int.fmod_eq_emod_of_nonneg, Int.fdiv_eq_ediv_of_nonneg, ne_eq, reduceCtorEq, not_false_eq_true, if_true, if_false, Bool.false_eq_true, decide_eq_true_eq, Int.reduceEq, Int.reduceLE, Int.reduceLT, $ls,*])
section
variable {L : List PySem.Str} {T : List (List PySem.Str)} {n : Nat}
noncomputable def inH (T : List (List PySem.Str)) (hs : List PySem.Str) (x : PySem.Str) : Bool := hs.any fun h => cnB T h x
end
theorem up_sub {A B : List PySem.Str} (h : Up B) (s : A.Sublist B) : Up A := h.sublist s
section
variable {Pr : PySem.Str → Option Def} {g : PySem.Str → Option SV}
end
end Sy

namespace Sy
open PySem PySem.Spec PyProof.Rows L2
section
variable {α : Type} [DecidableEq α]
theorem mx_congN {go go' : α → α → Bool} {P R : List α} (h : ∀ a ∈ P, ∀ b ∈ P, a ≠ b → go a b = go' a b) (m : Mx go P R) : Mx go' P R := by
  refine ⟨m.sub, fun x hx y hy n => ?_, fun a ha => ?_⟩
  · rw [← h x (m.sub.subset hx) y (m.sub.subset hy) n]
    exact m.cl x hx y hy n
  · have := m.mx a ha
    rw [← this]
    unfold gwB
    by_cases hin : a ∈ R
    · simp [hin]
    · congr 1
      refine Bool.eq_iff_iff.mpr ?_
      rw [List.all_eq_true, List.all_eq_true]
      exact ⟨fun z x hx => by rw [h x (m.sub.subset hx) a ha fun e => hin (e ▸ hx)]; exact z x hx, fun z x hx => by rw [← h x (m.sub.subset hx) a ha fun e => hin (e ▸ hx)]; exact z x hx⟩
theorem mxL_congN {go go' : α → α → Bool} {P : List α} (hP : P.Nodup) (h : ∀ a ∈ P, ∀ b ∈ P, a ≠ b → go a b = go' a b) : (mxIt go P).Perm (mxIt go' P) := by
  refine perm_of (nd_mxL hP) (nd_mxL hP) fun R => ?_
  rw [mem_mxL, mem_mxL]
  exact ⟨mx_congN h, mx_congN fun a ha b hb n => (h a ha b hb n).symm⟩
end
section
variable {L : List PySem.Str} {T : List (List PySem.Str)} {n : Nat}
theorem turn_web (W : WebOk L T n) : WebOk L (turnL L T) n where
  nd := W.nd
  srt := W.srt
  ok := W.ok
  len := W.len
  sub := fun r hr => (List.mem_filter.mp hr).1
  tnd := (pairs_nodup W.nd).filter _
  tsrt := (pairs_srt W.srt W.nd).filter _
theorem turn_tied (W : WebOk L T n) {a b : PySem.Str} (ha : a ∈ L) (hb : b ∈ L) (hne : a ≠ b) : (decide ([a, b] ∈ turnL L T) || decide ([b, a] ∈ turnL L T)) = !(decide ([a, b] ∈ T) || decide ([b, a] ∈ T)) := by
  have hU := up_of W.srt W.nd
  have one : ∀ x y : PySem.Str, x ∈ L → y ∈ L → wk x < wk y → [x, y] ∈ pairsL L ∧ [y, x] ∉ pairsL L := fun x y hx hy h => by
    refine ⟨hU.pairs.mpr ⟨x, y, hx, hy, h, rfl⟩, fun z => ?_⟩
    obtain ⟨a', b', _, _, h2, e⟩ := hU.pairs.mp z
    obtain ⟨e1, e2⟩ := List.cons.inj e
    obtain ⟨e2, _⟩ := List.cons.inj e2
    subst e1 e2
    exact List.lt_asymm h h2
  have two : ∀ x y : PySem.Str, x ∈ L → y ∈ L → wk x < wk y → (decide ([x, y] ∈ turnL L T) || decide ([y, x] ∈ turnL L T)) = !(decide ([x, y] ∈ T) || decide ([y, x] ∈ T)) := fun x y hx hy h => by
    obtain ⟨h1, h2⟩ := one x y hx hy h
    have h3 : [y, x] ∉ T := fun z => h2 (W.sub _ z)
    have h4 : [y, x] ∉ turnL L T := fun z => h2 (List.mem_filter.mp z).1
    have h5 : [x, y] ∈ turnL L T ↔ [x, y] ∉ T := by
      rw [List.mem_filter, decide_eq_true_eq]
      exact ⟨fun z => z.2, fun z => ⟨h1, z⟩⟩
    by_cases z : [x, y] ∈ T <;> simp [h3, h4, h5, z]
  have tri : wk a < wk b ∨ wk b < wk a := by
    by_cases h : wk a < wk b
    · exact .inl h
    · rcases List.le_iff_lt_or_eq.mp (List.not_lt.mp h) with z | z
      · exact .inr z
      · exact absurd (wk_inj z.symm) hne
  rcases tri with h | h
  · exact two a b ha hb h
  · rw [Bool.or_comm, two b a hb ha h, Bool.or_comm]
theorem go_turnA (W : WebOk L T n) {a b : PySem.Str} (ha : a ∈ L) (hb : b ∈ L) (hne : a ≠ b) : goT (turnL L T) "apart" a b = goT T "tied" a b := by
  unfold goT
  rw [turn_tied W ha hb hne]
  have : ¬ ("apart" : PySem.Str) = "tied" := by decide +kernel
  simp only [this, decide_false, decide_true]
  cases (decide ([a, b] ∈ T) || decide ([b, a] ∈ T)) <;> rfl
theorem go_turnT (W : WebOk L T n) {a b : PySem.Str} (ha : a ∈ L) (hb : b ∈ L) (hne : a ≠ b) : goT (turnL L T) "tied" a b = goT T "apart" a b := by
  unfold goT
  rw [turn_tied W ha hb hne]
  have : ¬ ("apart" : PySem.Str) = "tied" := by decide +kernel
  simp only [this, decide_false, decide_true]
  cases (decide ([a, b] ∈ T) || decide ([b, a] ∈ T)) <;> rfl
/-! ### a part is one part -/
end
end Sy

namespace Sy
open PySem PySem.Spec PyProof.Rows L2
section
variable {L : List PySem.Str} {T : List (List PySem.Str)} {n : Nat}
/-- rows that are tied, or apart, throughout -/
theorem kind_go {kind : PySem.Str} (W : WebOk L T n) (hc : ¬ kind = "cover") {R : List PySem.Str} (hR : Up R) (sub : ∀ a ∈ R, a ∈ L) : kindB T kind R = true ↔ ∀ x ∈ R, ∀ y ∈ R, x ≠ y → goT T kind x y = true := by
  have hU := up_of W.srt W.nd
  have no : ∀ x y : PySem.Str, wk x < wk y → [y, x] ∉ T := fun x y h z => by
    obtain ⟨a', b', _, _, h2, e⟩ := hU.pairs.mp (W.sub _ z)
    obtain ⟨e1, e2⟩ := List.cons.inj e
    obtain ⟨e2, _⟩ := List.cons.inj e2
    subst e1 e2
    exact List.lt_asymm h h2
  have one : ∀ x y : PySem.Str, wk x < wk y → (goT T kind x y = true ↔ decide ([x, y] ∈ T) = decide (kind = "tied")) := fun x y h => by
    unfold goT
    simp [no x y h]
  unfold kindB
  rw [if_neg hc, List.all_eq_true]
  constructor
  · intro h x hx y hy hne
    have lt : ∀ x ∈ R, ∀ y ∈ R, wk x < wk y → goT T kind x y = true := fun x hx y hy hlt => (one x y hlt).mpr (of_decide_eq_true (h _ (hR.pairs.mpr ⟨x, y, hx, hy, hlt, rfl⟩)))
    by_cases hlt : wk x < wk y
    · exact lt x hx y hy hlt
    · rcases List.le_iff_lt_or_eq.mp (List.not_lt.mp hlt) with z | z
      · rw [goT_sy]
        exact lt y hy x hx z
      · exact absurd (wk_inj z.symm) hne
  · intro h p hp
    obtain ⟨x, y, hx, hy, hlt, rfl⟩ := hR.pairs.mp hp
    exact decide_eq_true ((one x y hlt).mp (h x hx y hy fun e => by rw [e] at hlt; exact List.lt_irrefl _ hlt))
theorem most_mx {kind : PySem.Str} (W : WebOk L T n) (hc : ¬ kind = "cover") {R : List PySem.Str} (m : Mx (goT T kind) L R) : mostB L T kind R = true := by
  have hU := up_of W.srt W.nd
  have hR := up_sub hU m.sub
  unfold mostB
  rw [if_neg hc, Bool.and_eq_true, List.all_eq_true]
  refine ⟨(kind_go W hc hR fun a ha => m.sub.subset ha).mpr m.cl, fun a ha => ?_⟩
  by_cases hin : a ∈ R
  · simp [hin]
  · have hg := m.mx a ha
    have : kindB T kind (insW R a) = false := by
      cases e : kindB T kind (insW R a) with
      | false => rfl
      | true =>
        have h2 := (kind_go W hc (up_insW hR hin) (ins_sub ha fun a ha => m.sub.subset ha)).mp e
        have : gwB (goT T kind) R a = true := gwB_iff.mpr ⟨hin, fun x hx => h2 x (mem_insW.mpr (.inl hx)) a (mem_insW.mpr (.inr rfl)) fun e => hin (e ▸ hx)⟩
        rw [hg] at this
        cases this
    simp [this]
theorem most_rows {kind : PySem.Str} (W : WebOk L T n) {R : List PySem.Str} (hr : R ∈ rowsK L T kind) : mostB L T kind R = true := by
  by_cases hc : kind = "cover"
  · subst hc
    obtain ⟨s, m, rfl⟩ := mem_rowsK_cover.mp hr
    have hU := up_of W.srt W.nd
    have na : ¬ ("apart" : PySem.Str) = "tied" := by decide +kernel
    have tie : ∀ x y : PySem.Str, [x, y] ∈ T → goT T "apart" x y = false := fun x y h => by
      unfold goT
      simp [h, na]
    have neT : ∀ x y : PySem.Str, [x, y] ∈ T → x ∈ L ∧ y ∈ L ∧ x ≠ y := fun x y h => by
      obtain ⟨a', b', h1, h2, h3, e⟩ := hU.pairs.mp (W.sub _ h)
      obtain ⟨e1, e2⟩ := List.cons.inj e
      obtain ⟨e2, _⟩ := List.cons.inj e2
      subst e1 e2
      exact ⟨h1, h2, fun e => by rw [e] at h3; exact List.lt_irrefl _ h3⟩
    unfold mostB
    rw [if_pos rfl, Bool.and_eq_true, List.all_eq_true]
    refine ⟨kind_cover.mpr fun r hr => ?_, fun a ha => ?_⟩
    · obtain ⟨x, y, rfl⟩ := ties_ab W r hr
      obtain ⟨hx, hy, hne⟩ := neT x y hr
      by_cases h1 : x ∈ s
      · by_cases h2 : y ∈ s
        · have := m.cl x h1 y h2 hne
          rw [tie x y hr] at this
          cases this
        · exact ⟨y, by simp, mem_resL.mpr ⟨hy, h2⟩⟩
      · exact ⟨x, by simp, mem_resL.mpr ⟨hx, h1⟩⟩
    · obtain ⟨haL, hns⟩ := mem_resL.mp ha
      have hg := m.mx a haL
      have : ¬ kindB T "cover" (remW (resL L s) a) = true := fun h => by
        rw [kind_cover] at h
        have : gwB (goT T "apart") s a = true := gwB_iff.mpr ⟨hns, fun x hx => by
          cases e : goT T "apart" x a with
          | true => rfl
          | false =>
            exfalso
            have bad : ∀ r ∈ T, (∀ z ∈ r, z = x ∨ z = a) → False := fun r hr hz => by
              obtain ⟨z, hz1, hz2⟩ := h r hr
              obtain ⟨hz3, hz4⟩ := mem_remW.mp hz2
              rcases hz z hz1 with e | e
              · exact (mem_resL.mp hz3).2 (e ▸ hx)
              · exact hz4 e
            unfold goT at e
            simp only [na, decide_false, beq_eq_false_iff_ne, ne_eq, Bool.not_eq_false, Bool.or_eq_true, decide_eq_true_eq] at e
            rcases e with e | e
            · exact bad _ e fun z hz => by simpa using hz
            · exact bad _ e fun z hz => by
                have : z = a ∨ z = x := by simpa using hz
                exact this.symm⟩
        rw [hg] at this
        cases this
      simp [this]
  · have : rowsK L T kind = rowsN L T kind := if_neg hc
    rw [this] at hr
    exact most_mx W hc (mem_rowsN.mp hr)
/-! ### sizes -/
/-- the web turned over, apart and tied -/
theorem rows_turnA (W : WebOk L T n) : rowsK L (turnL L T) "apart" = rowsK L T "tied" := by
  have n1 : ¬ ("apart" : PySem.Str) = "cover" := by decide +kernel
  have n2 : ¬ ("tied" : PySem.Str) = "cover" := by decide +kernel
  unfold rowsK
  rw [if_neg n1, if_neg n2]
  exact sort_perm (mxL_congN W.nd fun a ha b hb h => go_turnA W ha hb h)
theorem rows_turnT (W : WebOk L T n) : rowsK L (turnL L T) "tied" = rowsK L T "apart" := by
  have n1 : ¬ ("apart" : PySem.Str) = "cover" := by decide +kernel
  have n2 : ¬ ("tied" : PySem.Str) = "cover" := by decide +kernel
  unfold rowsK
  rw [if_neg n1, if_neg n2]
  exact sort_perm (mxL_congN W.nd fun a ha b hb h => go_turnT W ha hb h)
end
end Sy

/-! how many greatest rows there are at most -/
namespace Sy
open PySem PySem.Spec PyProof.Rows L2
def fbN : Nat → Nat
  | 0 => 1
  | 1 => 1
  | n + 2 => fbN (n + 1) + fbN n
theorem fb_up : ∀ n, fbN n ≤ fbN (n + 1)
  | 0 => Nat.le_refl _
  | n + 1 => Nat.le_add_right _ _
theorem fb_le {m n : Nat} (h : m ≤ n) : fbN m ≤ fbN n := by
  induction h with
  | refl => exact Nat.le_refl _
  | step _ ih => exact Nat.le_trans ih (fb_up _)
theorem len_split {α : Type} (p : α → Bool) : ∀ l : List α, l.length = (l.filter p).length + (l.filter fun x => !p x).length
  | [] => rfl
  | a :: l => by
    have := len_split p l
    cases h : p a <;> simp [List.filter_cons, h] <;> omega
section
variable {α : Type} [DecidableEq α] {go : α → α → Bool} (sy : ∀ x y, go x y = go y x)
include sy
theorem mx_few : ∀ (n : Nat) {P : List α}, P.length = n → P.Nodup → (mxIt go P).length ≤ fbN n := by
  intro n
  induction n using Nat.strongRecOn with
  | ind n ih =>
    intro P hl nd
    cases P with
    | nil =>
      subst hl
      have := len_mxL go ([] : List α)
      exact this
    | cons a P =>
      obtain ⟨m, rfl⟩ : ∃ m, n = m + 1 := ⟨P.length, by simpa using hl.symm⟩
      have hl : P.length = m := by simpa using hl
      obtain ⟨na, nP⟩ := List.nodup_cons.mp nd
      have nM := nd_mxL (go := go) nd
      rw [len_split (fun R => decide (a ∈ R))]
      have out : ((mxIt go (a :: P)).filter fun R => !decide (a ∈ R)).length ≤ fbN m := by
        refine Nat.le_trans (nd_len (nM.filter _) (nd_mxL (go := go) nP) fun R hR => ?_) (ih m (by omega) hl nP)
        obtain ⟨h1, h2⟩ := List.mem_filter.mp hR
        have h2 : a ∉ R := by simpa using h2
        have M := mem_mxL.mp h1
        refine mem_mxL.mpr ⟨?_, M.cl, fun b hb => M.mx b (List.mem_cons_of_mem _ hb)⟩
        rcases List.sublist_cons_iff.mp M.sub with h | ⟨R', rfl, _⟩
        · exact h
        · exact absurd List.mem_cons_self h2
      have inn : ((mxIt go (a :: P)).filter fun R => decide (a ∈ R)).length ≤ (mxIt go (P.filter fun x => go x a)).length := by
        have key : ∀ R ∈ (mxIt go (a :: P)).filter (fun R => decide (a ∈ R)), ∃ R', R = a :: R' ∧ Mx go (P.filter fun x => go x a) R' := fun R hR => by
          obtain ⟨h1, h2⟩ := List.mem_filter.mp hR
          have h2 : a ∈ R := by simpa using h2
          have M := mem_mxL.mp h1
          rcases List.sublist_cons_iff.mp M.sub with h | ⟨R', rfl, hs⟩
          · exact absurd (h.subset h2) na
          · refine ⟨R', rfl, ?_, fun x hx y hy => M.cl x (List.mem_cons_of_mem _ hx) y (List.mem_cons_of_mem _ hy), fun b hb => ?_⟩
            · have all : R'.filter (fun x => go x a) = R' := List.filter_eq_self.mpr fun x hx => M.cl x (List.mem_cons_of_mem _ hx) a List.mem_cons_self fun e => na (hs.subset (e ▸ hx))
              rw [← all]
              exact hs.filter _
            · obtain ⟨b1, b2⟩ := List.mem_filter.mp hb
              cases e : gwB go R' b with
              | false => rfl
              | true =>
                obtain ⟨e1, e2⟩ := gwB_iff.mp e
                have := M.mx b (List.mem_cons_of_mem _ b1)
                rw [gwB_iff.mpr ⟨fun z => by
                  rcases List.mem_cons.mp z with z | z
                  · exact na (z ▸ b1)
                  · exact e1 z, fun x hx => by
                  rcases List.mem_cons.mp hx with z | z
                  · rw [z, sy]; exact b2
                  · exact e2 x z⟩] at this
                cases this
        have e : ((mxIt go (a :: P)).filter fun R => decide (a ∈ R)).length = (((mxIt go (a :: P)).filter fun R => decide (a ∈ R)).map List.tail).length := (List.length_map _).symm
        rw [e]
        have nd2 : (((mxIt go (a :: P)).filter fun R => decide (a ∈ R)).map List.tail).Nodup := by
          refine List.pairwise_map.mpr (List.Pairwise.imp_of_mem ?_ (nM.filter _))
          intro A B hA hB ne e
          obtain ⟨A', rfl, _⟩ := key A hA
          obtain ⟨B', rfl, _⟩ := key B hB
          have e : A' = B' := e
          exact ne (by rw [e])
        refine nd_len nd2 (nd_mxL (go := go) (nP.filter _)) ?_
        intro R hR
        obtain ⟨Q, hQ, rfl⟩ := List.mem_map.mp hR
        obtain ⟨Q', rfl, M⟩ := key Q hQ
        exact mem_mxL.mpr M
      by_cases full : (P.filter fun x => go x a).length = P.length
      · have all := List.length_filter_eq_length_iff.mp full
        have none_ : ((mxIt go (a :: P)).filter fun R => !decide (a ∈ R)) = [] := by
          rw [List.filter_eq_nil_iff]
          intro R hR c
          have c : a ∉ R := by simpa using c
          have M := mem_mxL.mp hR
          have := M.mx a List.mem_cons_self
          rw [gwB_iff.mpr ⟨c, fun x hx => by
            rcases List.mem_cons.mp (M.sub.subset hx) with z | z
            · exact absurd (z ▸ hx) c
            · exact all x z⟩] at this
          cases this
        have h1 := ih m (by omega) (P := P.filter fun x => go x a) (by omega) (nP.filter _)
        have h2 := fb_up m
        rw [none_, List.length_nil]
        omega
      · have le := List.length_filter_le (fun x => go x a) P
        have h1 := ih (P.filter fun x => go x a).length (by omega) rfl (nP.filter _)
        cases m with
        | zero => omega
        | succ m =>
          have h2 := fb_le (show (P.filter fun x => go x a).length ≤ m by omega)
          have h3 : fbN (m + 1 + 1) = fbN (m + 1) + fbN m := rfl
          omega
end
theorem few_rowsN {L : List PySem.Str} {T : List (List PySem.Str)} {kind : PySem.Str} (nd : L.Nodup) (h : L.length ≤ 14) : (rowsN L T kind).length ≤ 610 := by
  unfold rowsN
  rw [List.length_mergeSort]
  exact Nat.le_trans (mx_few (goT_sy T kind) _ rfl nd) (fb_le h)
theorem few_rowsK {L : List PySem.Str} {T : List (List PySem.Str)} {kind : PySem.Str} (nd : L.Nodup) (h : L.length ≤ 14) : (rowsK L T kind).length ≤ 610 := by
  unfold rowsK
  split
  · rw [List.length_mergeSort, List.length_map]
    exact few_rowsN nd h
  · exact few_rowsN nd h
end Sy

/-! what is filled: greatest, the first one, and by other names -/
namespace Sy
open PySem PySem.Spec PyProof.Rows L2
section
variable {L : List PySem.Str} {T : List (List PySem.Str)} {kind : PySem.Str}
/-- names put in, one by one -/
theorem fillN (hk : ¬ kind = "cover") : ∀ (l c : List PySem.Str), Up c → (∀ a ∈ c, a ∈ L) → (∀ a ∈ l, a ∈ L) → kindB T kind c = true →
    Up (l.foldl (stepN (kindB T kind)) c) ∧ (∀ a ∈ l.foldl (stepN (kindB T kind)) c, a ∈ L) ∧ (∀ a ∈ c, a ∈ l.foldl (stepN (kindB T kind)) c) ∧ kindB T kind (l.foldl (stepN (kindB T kind)) c) = true ∧
      ∀ a ∈ l, a ∉ l.foldl (stepN (kindB T kind)) c → kindB T kind (insW (l.foldl (stepN (kindB T kind)) c) a) = false
  | [], c, h1, h2, _, h4 => ⟨h1, h2, fun _ h => h, h4, fun _ h => nomatch h⟩
  | a :: l, c, h1, h2, h3, h4 => by
    rw [List.foldl_cons]
    have ha := h3 a List.mem_cons_self
    have hs : stepN (kindB T kind) c a = if decide (a ∉ c) && kindB T kind (insW c a) then insW c a else c := rfl
    by_cases hm : a ∈ c
    · have e : stepN (kindB T kind) c a = c := by rw [hs]; simp [hm]
      rw [e]
      obtain ⟨g1, g2, g3, g4, g5⟩ := fillN hk l c h1 h2 (fun b hb => h3 b (List.mem_cons_of_mem _ hb)) h4
      refine ⟨g1, g2, g3, g4, fun b hb hn => ?_⟩
      rcases List.mem_cons.mp hb with e | hb
      · rw [e] at hn; exact absurd (g3 a hm) hn
      · exact g5 b hb hn
    · cases hp : kindB T kind (insW c a) with
      | true =>
        have e : stepN (kindB T kind) c a = insW c a := by rw [hs]; simp [hm, hp]
        rw [e]
        obtain ⟨g1, g2, g3, g4, g5⟩ := fillN hk l (insW c a) (up_insW h1 hm) (ins_sub ha h2) (fun b hb => h3 b (List.mem_cons_of_mem _ hb)) hp
        refine ⟨g1, g2, fun b hb => g3 b (mem_insW.mpr (.inl hb)), g4, fun b hb hn => ?_⟩
        rcases List.mem_cons.mp hb with e | hb
        · rw [e] at hn; exact absurd (g3 a (mem_insW.mpr (.inr rfl))) hn
        · exact g5 b hb hn
      | false =>
        have e : stepN (kindB T kind) c a = c := by rw [hs]; simp [hp]
        rw [e]
        obtain ⟨g1, g2, g3, g4, g5⟩ := fillN hk l c h1 h2 (fun b hb => h3 b (List.mem_cons_of_mem _ hb)) h4
        refine ⟨g1, g2, g3, g4, fun b hb hn => ?_⟩
        rcases List.mem_cons.mp hb with e | hb
        · rw [e] at hn ⊢
          cases hq : kindB T kind (insW (l.foldl (stepN (kindB T kind)) c) a) with
          | false => rfl
          | true =>
            rw [kind_down hk (up_insW h1 hm) (up_insW g1 hn) (fun x hx => by
              rcases mem_insW.mp hx with z | z
              · exact mem_insW.mpr (.inl (g3 x z))
              · exact mem_insW.mpr (.inr z)) hq] at hp
            cases hp
        · exact g5 b hb hn
/-- a name that was left out could not be put to what stood there: the row and the names put in ahead of it -/
theorem fillN_at (hk : ¬ kind = "cover") : ∀ (l c : List PySem.Str), Up l → Up c → (∀ a ∈ c, a ∈ L) → (∀ a ∈ l, a ∈ L) → kindB T kind c = true → ∀ a ∈ l, a ∉ l.foldl (stepN (kindB T kind)) c →
    ∃ cur, Up cur ∧ a ∉ cur ∧ kindB T kind (insW cur a) = false ∧ ∀ x ∈ cur, x ∈ c ∨ (x ∈ l.foldl (stepN (kindB T kind)) c ∧ wk x < wk a)
  | [], c, _, _, _, _, _ => fun _ h => nomatch h
  | b :: l, c, hl, h1, h2, h3, h4 => fun a ha hn => by
    obtain ⟨hb, hl'⟩ := List.pairwise_cons.mp hl
    have hbL := h3 b List.mem_cons_self
    have hs : stepN (kindB T kind) c b = if decide (b ∉ c) && kindB T kind (insW c b) then insW c b else c := rfl
    rw [List.foldl_cons] at hn ⊢
    have hc' : Up (stepN (kindB T kind) c b) ∧ (∀ a ∈ stepN (kindB T kind) c b, a ∈ L) ∧ kindB T kind (stepN (kindB T kind) c b) = true ∧ (∀ x ∈ stepN (kindB T kind) c b, x ∈ c ∨ x = b) ∧ (b ∉ stepN (kindB T kind) c b → b ∉ c ∧ kindB T kind (insW c b) = false) := by
      rw [hs]
      by_cases hm : b ∈ c
      · simp only [hm, not_true_eq_false, decide_false, Bool.false_and, Bool.false_eq_true, if_false]
        exact ⟨h1, h2, h4, fun x hx => .inl hx, fun z => by first | exact z.elim | exact absurd hm z⟩
      · cases hp : kindB T kind (insW c b) with
        | true =>
          simp only [hm, not_false_eq_true, decide_true, Bool.true_and, if_true]
          exact ⟨up_insW h1 hm, ins_sub hbL h2, hp, fun x hx => mem_insW.mp hx, fun z => absurd (mem_insW.mpr (.inr rfl)) z⟩
        | false =>
          rw [Bool.and_false, if_neg (by decide)]
          exact ⟨h1, h2, h4, fun x hx => .inl hx, fun _ => ⟨hm, rfl⟩⟩
    obtain ⟨c1, c2, c3, c4, c5⟩ := hc'
    obtain ⟨g1, g2, g3, g4, g5⟩ := fillN hk l _ c1 c2 (fun x hx => h3 x (List.mem_cons_of_mem _ hx)) c3
    rcases List.mem_cons.mp ha with e | ha
    · rw [e] at hn ⊢
      obtain ⟨q1, q2⟩ := c5 fun z => hn (g3 b z)
      exact ⟨c, h1, q1, q2, fun x hx => .inl hx⟩
    · obtain ⟨cur, q1, q2, q3, q4⟩ := fillN_at hk l _ hl' c1 c2 (fun x hx => h3 x (List.mem_cons_of_mem _ hx)) c3 a ha hn
      refine ⟨cur, q1, q2, q3, fun x hx => ?_⟩
      rcases q4 x hx with z | z
      · rcases c4 x z with y | y
        · exact .inl y
        · exact .inr ⟨g3 x z, by rw [y]; exact hb a ha⟩
      · exact .inr z
/-- two rows in the order of tuples -/
theorem lex_cases : ∀ {A B : List PySem.Str}, wks A < wks B → (∃ s, s ≠ [] ∧ B = A ++ s) ∨ ∃ p a b A' B', A = p ++ a :: A' ∧ B = p ++ b :: B' ∧ wk a < wk b
  | [], [], h => absurd h (List.lt_irrefl _)
  | [], b :: B, _ => .inl ⟨b :: B, by simp, rfl⟩
  | a :: A, [], h => absurd h (List.not_lt_nil _)
  | a :: A, b :: B, h => by
    have h' : wk a :: wks A < wk b :: wks B := h
    rcases List.cons_lt_cons_iff.mp h' with z | ⟨z1, z2⟩
    · exact .inr ⟨[], a, b, A, B, rfl, rfl, z⟩
    · have e := wk_inj z1
      subst e
      rcases lex_cases z2 with ⟨s, s1, s2⟩ | ⟨p, x, y, A', B', e1, e2, e3⟩
      · exact .inl ⟨s, s1, by rw [s2]; rfl⟩
      · exact .inr ⟨a :: p, x, y, A', B', by rw [e1]; rfl, by rw [e2]; rfl, e3⟩
/-- no greatest row that has the row's names lies ahead of what is filled -/
theorem fillN_first (hk : ¬ kind = "cover") {c G : List PySem.Str} (hL : Up L) (hc : Up c) (sc : ∀ a ∈ c, a ∈ L) (kc : kindB T kind c = true) (hG : Up G) (sG : ∀ a ∈ G, a ∈ L) (kG : kindB T kind G = true) (mG : ∀ a ∈ L, a ∉ G → kindB T kind (insW G a) = false)
    (cG : ∀ a ∈ c, a ∈ G) : ¬ wks G < wks (L.foldl (stepN (kindB T kind)) c) := fun h => by
  obtain ⟨g1, g2, g3, g4, g5⟩ := fillN hk L c hc sc (fun _ h => h) kc
  have at_ := fillN_at hk L c hL hc sc (fun _ h => h) kc
  generalize L.foldl (stepN (kindB T kind)) c = F at *
  rcases lex_cases h with ⟨s, hs, e⟩ | ⟨p, a, b, A', B', e1, e2, hab⟩
  · obtain ⟨x, s', rfl⟩ : ∃ x s', s = x :: s' := by
      cases s with
      | nil => exact absurd rfl hs
      | cons x s' => exact ⟨x, s', rfl⟩
    have hxF : x ∈ F := by rw [e]; simp
    have hxG : x ∉ G := fun hx => by
      have g1' := g1
      rw [e] at g1'
      obtain ⟨_, _, q⟩ := List.pairwise_append.mp g1'
      exact List.lt_irrefl _ (q x hx x List.mem_cons_self)
    have q := mG x (g2 x hxF) hxG
    rw [kind_down hk (up_insW hG hxG) g1 (fun y hy => by
      rcases mem_insW.mp hy with z | z
      · rw [e]; exact List.mem_append_left _ z
      · rw [z]; exact hxF) g4] at q
    cases q
  · have hG' := hG
    rw [e1] at hG'
    obtain ⟨_, u1, u2⟩ := List.pairwise_append.mp hG'
    have hF' := g1
    rw [e2] at hF'
    obtain ⟨_, v1, v2⟩ := List.pairwise_append.mp hF'
    have haG : a ∈ G := by rw [e1]; simp
    have haF : a ∉ F := fun z => by
      rw [e2] at z
      rcases List.mem_append.mp z with z | z
      · exact List.lt_irrefl _ (u2 a z a List.mem_cons_self)
      · rcases List.mem_cons.mp z with z | z
        · rw [z] at hab; exact List.lt_irrefl _ hab
        · exact List.lt_asymm hab ((List.pairwise_cons.mp v1).1 a z)
    obtain ⟨cur, q1, q2, q3, q4⟩ := at_ a (sG a haG) haF
    have sub : ∀ x ∈ cur, x ∈ G := fun x hx => by
      rcases q4 x hx with z | ⟨z1, z2⟩
      · exact cG x z
      · rw [e2] at z1
        rcases List.mem_append.mp z1 with z | z
        · rw [e1]; exact List.mem_append_left _ z
        · rcases List.mem_cons.mp z with z | z
          · rw [z] at z2; exact absurd z2 (List.lt_asymm hab)
          · exact absurd (List.lt_trans ((List.pairwise_cons.mp v1).1 x z) z2) (List.lt_asymm hab)
    rw [kind_down hk (up_insW q1 q2) hG (fun y hy => by
      rcases mem_insW.mp hy with z | z
      · exact sub y z
      · rw [z]; exact haG) kG] at q3
    cases q3
theorem fold_same (P : List PySem.Str → Bool) {F : List PySem.Str} : ∀ l : List PySem.Str, (∀ a ∈ l, a ∉ F → P (insW F a) = false) → l.foldl (stepN P) F = F
  | [], _ => rfl
  | a :: l, h => by
    have e : stepN P F a = F := by
      unfold stepN
      by_cases hm : a ∈ F
      · simp [hm]
      · simp [h a List.mem_cons_self hm]
    rw [List.foldl_cons, e]
    exact fold_same P l fun b hb => h b (List.mem_cons_of_mem _ hb)
/-- names taken out, one by one -/
theorem fillC : ∀ (l c : List PySem.Str), Up c → kindB T "cover" c = true →
    Up (l.foldl (stepC (kindB T "cover")) c) ∧ (∀ a ∈ l.foldl (stepC (kindB T "cover")) c, a ∈ c) ∧ kindB T "cover" (l.foldl (stepC (kindB T "cover")) c) = true ∧
      ∀ a ∈ l, a ∈ l.foldl (stepC (kindB T "cover")) c → kindB T "cover" (remW (l.foldl (stepC (kindB T "cover")) c) a) = false
  | [], c, h1, h4 => ⟨h1, fun _ h => h, h4, fun _ h => nomatch h⟩
  | a :: l, c, h1, h4 => by
    rw [List.foldl_cons]
    cases hp : kindB T "cover" (remW c a) with
    | true =>
      have e : stepC (kindB T "cover") c a = remW c a := by unfold stepC; rw [hp, if_pos rfl]
      rw [e]
      obtain ⟨g1, g2, g3, g4⟩ := fillC l (remW c a) (up_remW h1) hp
      refine ⟨g1, fun b hb => (mem_remW.mp (g2 b hb)).1, g3, fun b hb hm => ?_⟩
      rcases List.mem_cons.mp hb with e | hb
      · rw [e] at hm; exact absurd rfl (mem_remW.mp (g2 a hm)).2
      · exact g4 b hb hm
    | false =>
      have e : stepC (kindB T "cover") c a = c := by unfold stepC; rw [hp, if_neg (by decide)]
      rw [e]
      obtain ⟨g1, g2, g3, g4⟩ := fillC l c h1 h4
      refine ⟨g1, g2, g3, fun b hb hm => ?_⟩
      rcases List.mem_cons.mp hb with e | hb
      · rw [e] at hm ⊢
        cases hq : kindB T "cover" (remW (l.foldl (stepC (kindB T "cover")) c) a) with
        | false => rfl
        | true =>
          rw [kind_up (fun x hx => mem_remW.mpr ⟨g2 x (mem_remW.mp hx).1, (mem_remW.mp hx).2⟩) hq] at hp
          cases hp
      · exact g4 b hb hm
theorem foldC_same (P : List PySem.Str → Bool) {F : List PySem.Str} : ∀ l : List PySem.Str, (∀ a ∈ l, P (remW F a) = false) → l.foldl (stepC P) F = F
  | [], _ => rfl
  | a :: l, h => by
    have e : stepC P F a = F := by
      unfold stepC
      rw [h a List.mem_cons_self, if_neg (by decide)]
    rw [List.foldl_cons, e]
    exact foldC_same P l fun b hb => h b (List.mem_cons_of_mem _ hb)
/-- what is filled is greatest, in order, of the names, and filled again it is itself -/
theorem fill_most (hL : Up L) {R : List PySem.Str} (hR : Up R) (sub : ∀ a ∈ R, a ∈ L) (his : kindB T kind R = true) :
    Up (fillL L T kind R) ∧ (∀ a ∈ fillL L T kind R, a ∈ L) ∧ kindB T kind (fillL L T kind R) = true ∧ mostB L T kind (fillL L T kind R) = true ∧ fillL L T kind (fillL L T kind R) = fillL L T kind R ∧
      (kind = "cover" → ∀ a ∈ fillL L T kind R, a ∈ R) ∧ (¬ kind = "cover" → ∀ a ∈ R, a ∈ fillL L T kind R) := by
  by_cases hc : kind = "cover"
  · subst hc
    unfold fillL mostB
    rw [if_pos rfl, if_pos rfl]
    simp only [if_pos rfl]
    obtain ⟨g1, g2, g3, g4⟩ := fillC R.reverse R hR his
    have g5 : ∀ a ∈ List.foldl (stepC (kindB T "cover")) R R.reverse, kindB T "cover" (remW (List.foldl (stepC (kindB T "cover")) R R.reverse) a) = false := fun a ha => g4 a (List.mem_reverse.mpr (g2 a ha)) ha
    refine ⟨g1, fun a ha => sub a (g2 a ha), g3, ?_, foldC_same _ _ fun a ha => g5 a (List.mem_reverse.mp ha), fun _ => g2, fun z => by first | exact absurd rfl z | exact absurd trivial z⟩
    rw [g3, Bool.true_and, List.all_eq_true]
    intro a ha
    rw [g5 a ha]
    rfl
  · unfold fillL mostB
    simp only [hc, if_false]
    obtain ⟨g1, g2, g3, g4, g5⟩ := fillN hc L R hR sub (fun _ h => h) his
    refine ⟨g1, g2, g4, ?_, fold_same _ _ g5, fun z => by first | exact absurd z hc | exact z.elim, fun _ => g3⟩
    rw [g4, Bool.true_and, List.all_eq_true]
    intro a ha
    by_cases hm : a ∈ List.foldl (stepN (kindB T kind)) R L
    · simp [hm]
    · rw [g5 a ha hm]
      simp
theorem most_no (hk : ¬ kind = "cover") {G : List PySem.Str} (h : mostB L T kind G = true) : kindB T kind G = true ∧ ∀ a ∈ L, a ∉ G → kindB T kind (insW G a) = false := by
  unfold mostB at h
  rw [if_neg hk, Bool.and_eq_true, List.all_eq_true] at h
  refine ⟨h.1, fun a ha hn => ?_⟩
  have q := h.2 a ha
  simpa [hn] using q
end
/-! by other names -/
section
variable {L : List PySem.Str} {T : List (List PySem.Str)} {kind : PySem.Str} {σ : PySem.Str → PySem.Str}
/-- other names in the same order -/
def Ren (L : List PySem.Str) (σ : PySem.Str → PySem.Str) : Prop := ∀ a ∈ L, ∀ b ∈ L, wk a < wk b → wk (σ a) < wk (σ b)
theorem wk_tri (a b : PySem.Str) : wk a < wk b ∨ a = b ∨ wk b < wk a := by
  by_cases h : wk a < wk b
  · exact .inl h
  · rcases List.le_iff_lt_or_eq.mp (List.not_lt.mp h) with z | z
    · exact .inr (.inr z)
    · exact .inr (.inl (wk_inj z).symm)
theorem Ren.inj (h : Ren L σ) {a b : PySem.Str} (ha : a ∈ L) (hb : b ∈ L) (e : σ a = σ b) : a = b := by
  rcases wk_tri a b with z | z | z
  · have := h a ha b hb z
    rw [e] at this
    exact absurd this (List.lt_irrefl _)
  · exact z
  · have := h b hb a ha z
    rw [e] at this
    exact absurd this (List.lt_irrefl _)
theorem Ren.up (h : Ren L σ) : ∀ {R : List PySem.Str}, Up R → (∀ a ∈ R, a ∈ L) → Up (R.map σ)
  | [], _, _ => List.Pairwise.nil
  | a :: R, hR, sub => by
    obtain ⟨h1, h2⟩ := List.pairwise_cons.mp hR
    refine List.pairwise_cons.mpr ⟨fun b hb => ?_, Ren.up h h2 fun x hx => sub x (List.mem_cons_of_mem _ hx)⟩
    obtain ⟨x, hx, rfl⟩ := List.mem_map.mp hb
    exact h a (sub a List.mem_cons_self) x (sub x (List.mem_cons_of_mem _ hx)) (h1 x hx)
theorem Ren.mem (h : Ren L σ) {R : List PySem.Str} (sub : ∀ a ∈ R, a ∈ L) {a : PySem.Str} (ha : a ∈ L) : σ a ∈ R.map σ ↔ a ∈ R := by
  rw [List.mem_map]
  constructor
  · rintro ⟨x, hx, e⟩
    rw [← h.inj (sub x hx) ha e]
    exact hx
  · exact fun z => ⟨a, z, rfl⟩
theorem Ren.ins (h : Ren L σ) {R : List PySem.Str} (hR : Up R) (sub : ∀ a ∈ R, a ∈ L) {a : PySem.Str} (ha : a ∈ L) (hn : a ∉ R) : insW (R.map σ) (σ a) = (insW R a).map σ := by
  refine up_ext (up_insW (h.up hR sub) fun z => hn ((h.mem sub ha).mp z)) (h.up (up_insW hR hn) (ins_sub ha sub)) fun x => ?_
  rw [mem_insW, List.mem_map, List.mem_map]
  constructor
  · rintro (⟨y, hy, rfl⟩ | rfl)
    · exact ⟨y, mem_insW.mpr (.inl hy), rfl⟩
    · exact ⟨a, mem_insW.mpr (.inr rfl), rfl⟩
  · rintro ⟨y, hy, rfl⟩
    rcases mem_insW.mp hy with z | z
    · exact .inl ⟨y, z, rfl⟩
    · exact .inr (by rw [z])
theorem Ren.rem (h : Ren L σ) {R : List PySem.Str} (hR : Up R) (sub : ∀ a ∈ R, a ∈ L) {a : PySem.Str} (ha : a ∈ L) : remW (R.map σ) (σ a) = (remW R a).map σ := by
  refine up_ext (up_remW (h.up hR sub)) (h.up (up_remW hR) fun x hx => sub x (mem_remW.mp hx).1) fun x => ?_
  rw [mem_remW, List.mem_map, List.mem_map]
  constructor
  · rintro ⟨⟨y, hy, rfl⟩, h2⟩
    exact ⟨y, mem_remW.mpr ⟨hy, fun e => h2 (by rw [e])⟩, rfl⟩
  · rintro ⟨y, hy, rfl⟩
    obtain ⟨h1, h2⟩ := mem_remW.mp hy
    exact ⟨⟨y, h1, rfl⟩, fun e => h2 (h.inj (sub y h1) ha e)⟩
theorem Ren.rows (h : Ren L σ) : ∀ {p r : List PySem.Str}, (∀ a ∈ p, a ∈ L) → (∀ a ∈ r, a ∈ L) → p.map σ = r.map σ → p = r
  | [], [], _, _, _ => rfl
  | [], _ :: _, _, _, e => by cases e
  | _ :: _, [], _, _, e => by cases e
  | a :: p, b :: r, hp, hr, e => by
    obtain ⟨e1, e2⟩ := List.cons.inj e
    rw [h.inj (hp a List.mem_cons_self) (hr b List.mem_cons_self) e1, Ren.rows h (fun x hx => hp x (List.mem_cons_of_mem _ hx)) (fun x hx => hr x (List.mem_cons_of_mem _ hx)) e2]
theorem Ren.pairs (h : Ren L σ) {R : List PySem.Str} (hR : Up R) (sub : ∀ a ∈ R, a ∈ L) {p : List PySem.Str} : p ∈ pairsL (R.map σ) ↔ ∃ r ∈ pairsL R, p = r.map σ := by
  rw [(h.up hR sub).pairs]
  constructor
  · rintro ⟨a, b, ha, hb, hlt, rfl⟩
    obtain ⟨x, hx, rfl⟩ := List.mem_map.mp ha
    obtain ⟨y, hy, rfl⟩ := List.mem_map.mp hb
    have hxy : wk x < wk y := by
      rcases wk_tri x y with z | z | z
      · exact z
      · rw [z] at hlt; exact absurd hlt (List.lt_irrefl _)
      · exact absurd (h y (sub y hy) x (sub x hx) z) (List.lt_asymm hlt)
    exact ⟨[x, y], hR.pairs.mpr ⟨x, y, hx, hy, hxy, rfl⟩, rfl⟩
  · rintro ⟨r, hr, rfl⟩
    obtain ⟨a, b, ha, hb, hlt, rfl⟩ := hR.pairs.mp hr
    exact ⟨σ a, σ b, List.mem_map_of_mem ha, List.mem_map_of_mem hb, h a (sub a ha) b (sub b hb) hlt, rfl⟩
theorem Ren.kd (h : Ren L σ) (hT : ∀ r ∈ T, ∀ a ∈ r, a ∈ L) {R : List PySem.Str} (hR : Up R) (sub : ∀ a ∈ R, a ∈ L) : kindB (T.map fun r => r.map σ) kind (R.map σ) = kindB T kind R := by
  unfold kindB
  by_cases hc : kind = "cover"
  · rw [if_pos hc, if_pos hc, List.all_map]
    refine all_cg fun r hr => ?_
    show List.any (r.map σ) _ = _
    rw [List.any_map, Bool.eq_iff_iff, List.any_eq_true, List.any_eq_true]
    constructor
    · rintro ⟨a, ha, q⟩
      exact ⟨a, ha, decide_eq_true ((h.mem sub (hT r hr a ha)).mp (of_decide_eq_true q))⟩
    · rintro ⟨a, ha, q⟩
      exact ⟨a, ha, decide_eq_true ((h.mem sub (hT r hr a ha)).mpr (of_decide_eq_true q))⟩
  · rw [if_neg hc, if_neg hc]
    have inT : ∀ r ∈ pairsL R, (r.map σ ∈ T.map fun r => r.map σ) ↔ r ∈ T := fun r hr => by
      obtain ⟨a, b, ha, hb, _, rfl⟩ := hR.pairs.mp hr
      rw [List.mem_map]
      constructor
      · rintro ⟨t, ht, e⟩
        rw [← h.rows (hT t ht) (fun x hx => by
          rcases List.mem_cons.mp hx with z | z
          · rw [z]; exact sub a ha
          · rw [List.mem_singleton.mp z]; exact sub b hb) e]
        exact ht
      · exact fun z => ⟨_, z, rfl⟩
    rw [Bool.eq_iff_iff, List.all_eq_true, List.all_eq_true]
    constructor
    · intro q r hr
      have q' := q (r.map σ) ((h.pairs hR sub).mpr ⟨r, hr, rfl⟩)
      simp only [inT r hr] at q'
      exact q'
    · intro q p hp
      obtain ⟨r, hr, rfl⟩ := (h.pairs hR sub).mp hp
      have q' := q r hr
      simp only [inT r hr]
      exact q'
theorem Ren.foldN (h : Ren L σ) (hT : ∀ r ∈ T, ∀ a ∈ r, a ∈ L) : ∀ (l c : List PySem.Str), (∀ a ∈ l, a ∈ L) → Up c → (∀ a ∈ c, a ∈ L) →
    (l.map σ).foldl (stepN (kindB (T.map fun r => r.map σ) kind)) (c.map σ) = (l.foldl (stepN (kindB T kind)) c).map σ
  | [], c, _, _, _ => rfl
  | a :: l, c, hl, hc, sc => by
    have ha := hl a List.mem_cons_self
    rw [List.map_cons, List.foldl_cons, List.foldl_cons]
    have e : stepN (kindB (T.map fun r => r.map σ) kind) (c.map σ) (σ a) = (stepN (kindB T kind) c a).map σ ∧ Up (stepN (kindB T kind) c a) ∧ ∀ x ∈ stepN (kindB T kind) c a, x ∈ L := by
      unfold stepN
      by_cases hm : a ∈ c
      · have hm' : σ a ∈ c.map σ := (h.mem sc ha).mpr hm
        simp only [hm, hm', not_true_eq_false, decide_false, Bool.false_and, Bool.false_eq_true, if_false]
        exact ⟨trivial, hc, sc⟩
      · have hm' : σ a ∉ c.map σ := fun z => hm ((h.mem sc ha).mp z)
        rw [h.ins hc sc ha hm, h.kd hT (up_insW hc hm) (ins_sub ha sc)]
        simp only [hm, hm', not_false_eq_true, decide_true, Bool.true_and]
        split
        · exact ⟨rfl, up_insW hc hm, ins_sub ha sc⟩
        · exact ⟨rfl, hc, sc⟩
    rw [e.1]
    exact Ren.foldN h hT l _ (fun x hx => hl x (List.mem_cons_of_mem _ hx)) e.2.1 e.2.2
theorem Ren.foldC (h : Ren L σ) (hT : ∀ r ∈ T, ∀ a ∈ r, a ∈ L) : ∀ (l c : List PySem.Str), (∀ a ∈ l, a ∈ L) → Up c → (∀ a ∈ c, a ∈ L) →
    (l.map σ).foldl (stepC (kindB (T.map fun r => r.map σ) kind)) (c.map σ) = (l.foldl (stepC (kindB T kind)) c).map σ
  | [], c, _, _, _ => rfl
  | a :: l, c, hl, hc, sc => by
    have ha := hl a List.mem_cons_self
    rw [List.map_cons, List.foldl_cons, List.foldl_cons]
    have e : stepC (kindB (T.map fun r => r.map σ) kind) (c.map σ) (σ a) = (stepC (kindB T kind) c a).map σ ∧ Up (stepC (kindB T kind) c a) ∧ ∀ x ∈ stepC (kindB T kind) c a, x ∈ L := by
      unfold stepC
      have sr : ∀ x ∈ remW c a, x ∈ L := fun x hx => sc x (mem_remW.mp hx).1
      rw [h.rem hc sc ha, h.kd hT (up_remW hc) sr]
      split
      · exact ⟨rfl, up_remW hc, sr⟩
      · exact ⟨rfl, hc, sc⟩
    rw [e.1]
    exact Ren.foldC h hT l _ (fun x hx => hl x (List.mem_cons_of_mem _ hx)) e.2.1 e.2.2
theorem Ren.fill (h : Ren L σ) (hT : ∀ r ∈ T, ∀ a ∈ r, a ∈ L) {R : List PySem.Str} (hR : Up R) (sub : ∀ a ∈ R, a ∈ L) : fillL (L.map σ) (T.map fun r => r.map σ) kind (R.map σ) = (fillL L T kind R).map σ := by
  unfold fillL
  split
  · rw [← List.map_reverse]
    exact h.foldC hT _ _ (fun a ha => sub a (List.mem_reverse.mp ha)) hR sub
  · exact h.foldN hT _ _ (fun _ h => h) hR sub
end
end Sy

namespace Sy
open PySem PySem.Spec PyProof.Rows L2
theorem msort_lt {A : List (List PySem.Str)} (nd : A.Nodup) : (A.mergeSort rle).Pairwise fun a b => a.map wk < b.map wk := by
  have h1 : (A.mergeSort rle).Pairwise fun a b => rle a b = true := List.pairwise_mergeSort rle_trans rle_total _
  have h2 : (A.mergeSort rle).Pairwise (· ≠ ·) := (List.mergeSort_perm _ _).nodup_iff.mpr nd
  refine (h1.and h2).imp fun {a b} h => ?_
  have q : a.map wk ≤ b.map wk := of_decide_eq_true h.1
  rcases List.le_iff_lt_or_eq.mp q with z | z
  · exact z
  · exact absurd (rk_inj z) h.2
theorem rowsN_lt0 {L : List PySem.Str} {T : List (List PySem.Str)} {kind : PySem.Str} (nd : L.Nodup) : (rowsN L T kind).Pairwise fun a b => a.map wk < b.map wk := msort_lt (nd_mxL nd)
theorem up_sublist {A L : List PySem.Str} (hA : Up A) (hL : Up L) (h : ∀ a ∈ A, a ∈ L) : A.Sublist L := by
  have e : A = L.filter fun x => decide (x ∈ A) := up_ext hA (up_filter hL _) fun x => by
    rw [List.mem_filter, decide_eq_true_eq]
    exact ⟨fun z => ⟨h x z, z⟩, fun z => z.2⟩
  rw [e]
  exact List.filter_sublist
section
variable {L : List PySem.Str} {T : List (List PySem.Str)} {n : Nat}
end
end Sy

namespace Sy
open PySem PySem.Spec PyProof.Rows L2
local macro_rules | `(tactic| simp! only [$ls,*]) => `(tactic| try simp only [callX_fold, mnA, mxA, strS, wB, wS, wT, wE, wA, wO, wC, tgS, binS, cmpS, biS, r1, r2, mtS, augS, cstS, splitS, opI_int, add_int, add_str, add_tup, add_ll, newL_f, newL_t, mul_int, ord_int, ord_str, int_int, int_bl, mn_int, mx_int, mn_str, mx_str, tuple_tup, tuple_tuf, tuple_lst, tuple_lstT, sl_lst, sl_tup, sl_scr, sl_str, it_lst, it_str, it_tup, it_tuf, it_enU, it_zU, it_rng1, it_rng2, it_enL, it_enT, it_zL, it_zT, List.set_cons_zero, List.set_cons_succ, List.getElem?_cons_zero, List.getElem?_cons_succ, some_ex, some_ex2, bl_ex, int_ex, eqS_int, idx_lst, idx_tup, idx_tuf, idx_str, len_lst, len_tup, len_tuf, len_scr, at_0, at_1, at_2, true_and, and_true, Int.fmod_eq_emod_of_nonneg, Int.fdiv_eq_ediv_of_nonneg, ne_eq, reduceCtorEq, not_false_eq_true, if_true, if_false, Bool.false_eq_true, decide_eq_true_eq, Int.reduceEq, Int.reduceLE, Int.reduceLT, $ls,*])
/-! ### what family D draws -/
section
variable {Pr : PySem.Str → Option Def} {g : PySem.Str → Option SV}
end
/-! ### names -/
section
variable {Pr : PySem.Str → Option Def} {g : PySem.Str → Option SV}
theorem mul_str {own : Bool} {S : Sto} {w : PySem.Str} {j : Int} {k : SK} : opMul own (.str w) (.int j) S k = (0 ≤ j ∧ j ≤ 1000 ∧ w.length ≤ 1000 ∧ k (.str (repS w j.toNat)) S) := rfl
end
end Sy

namespace Sy
open PySem PySem.Spec PyProof.Rows L2
local macro_rules | `(tactic| simp! only [$ls,*]) => `(tactic| try simp only [callX_fold, mnA, mxA, strS, wB, wS, wT, wE, wA, wO, wC, tgS, binS, cmpS, biS, r1, r2, mtS, augS, cstS, splitS, opI_int, add_int, add_str, add_tup, add_ll, newL_f, newL_t, mul_int, ord_int, ord_str, int_int, int_bl, mn_int, mx_int, mn_str, mx_str, tuple_tup, tuple_tuf, tuple_lst, tuple_lstT, sl_lst, sl_tup, sl_scr, sl_str, it_lst, it_str, it_tup, it_tuf, it_enU, it_zU, it_rng1, it_rng2, it_enL, it_enT, it_zL, it_zT, List.set_cons_zero, List.set_cons_succ, List.getElem?_cons_zero, List.getElem?_cons_succ, some_ex, some_ex2, bl_ex, int_ex, eqS_int, idx_lst, idx_tup, idx_tuf, idx_str, len_lst, len_tup, len_tuf, len_scr, at_0, at_1, at_2, true_and, and_true, Int.fmod_eq_emod_of_nonneg, Int.fdiv_eq_ediv_of_nonneg, ne_eq, reduceCtorEq, not_false_eq_true, if_true, if_false, Bool.false_eq_true, decide_eq_true_eq, Int.reduceEq, Int.reduceLE, Int.reduceLT, $ls,*])
/-! ### kept webs -/
def keptF (kind : PySem.Str) (an ti : Addr) (R : SV) : List (PySem.Str × SV) := [("kind", .str kind), ("names", .own an), ("ties", .own ti), ("rows", R)]
structure KAt (p an ti : Addr) (kind : PySem.Str) (N : List PySem.Str) (T : List (List PySem.Str)) (R : SV) (S : Sto) : Prop where
  pa : an ≠ p
  pt : ti ≠ p
  na : ti ≠ an
  ins : S p = some (.ins "KeptSets" (keptF kind an ti R))
  nm : S an = some (.lst (wS_ N))
  tm : S ti = some (.lst (T.map rS))
/-- the web's names and ties, and its rows -/
abbrev srL (N : List PySem.Str) : List PySem.Str := N.mergeSort wle
abbrev srT (T : List (List PySem.Str)) : List (List PySem.Str) := T.mergeSort rle
section
variable {Pr : PySem.Str → Option Def} {g : PySem.Str → Option SV}
end
/-! ### what stands in a kept web -/
structure KW (N : List PySem.Str) (T : List (List PySem.Str)) (n : Nat) : Prop where
  nd : N.Nodup
  ok : ∀ a ∈ N, WOk a
  len : N.length ≤ n
  tnd : T.Nodup
  ts : ∀ r ∈ T, ∃ a b, a ∈ N ∧ b ∈ N ∧ wk a < wk b ∧ r = [a, b]
section
variable {N : List PySem.Str} {T : List (List PySem.Str)} {n : Nat} {a b : PySem.Str}
theorem KW.web (K : KW N T n) : WebOk (srL N) (srT T) n where
  nd := (List.mergeSort_perm _ _).nodup_iff.mpr K.nd
  srt := List.pairwise_mergeSort wle_trans wle_total _
  ok := fun a ha => K.ok a (List.mem_mergeSort.mp ha)
  len := by rw [List.length_mergeSort]; exact K.len
  sub := fun r hr => by
    obtain ⟨a, b, ha, hb, hlt, e⟩ := K.ts r (List.mem_mergeSort.mp hr)
    exact (up_sort K.nd).pairs.mpr ⟨a, b, List.mem_mergeSort.mpr ha, List.mem_mergeSort.mpr hb, hlt, e⟩
  tnd := (List.mergeSort_perm _ _).nodup_iff.mpr K.tnd
  tsrt := List.pairwise_mergeSort rle_trans rle_total _
theorem KW.put (K : KW N T n) (ha : WOk a) (hn : a ∉ N) (hl : N.length < n) : KW (N ++ [a]) T n where
  nd := List.nodup_append.mpr ⟨K.nd, by simp, fun x hx y hy e => hn (by rw [List.mem_singleton.mp hy] at e; exact e ▸ hx)⟩
  ok := fun x hx => by
    rcases List.mem_append.mp hx with h | h
    · exact K.ok x h
    · rw [List.mem_singleton.mp h]; exact ha
  len := by rw [List.length_append]; show _ + 1 ≤ n; omega
  tnd := K.tnd
  ts := fun r hr => by
    obtain ⟨x, y, hx, hy, h⟩ := K.ts r hr
    exact ⟨x, y, List.mem_append_left _ hx, List.mem_append_left _ hy, h⟩
def outT (T : List (List PySem.Str)) (a : PySem.Str) : List (List PySem.Str) := T.filter fun r => decide (a ∉ r)
theorem KW.take (K : KW N T n) : KW (N.erase a) (outT T a) n where
  nd := K.nd.erase a
  ok := fun x hx => K.ok x (List.mem_of_mem_erase hx)
  len := Nat.le_trans (List.length_erase_le) K.len
  tnd := K.tnd.filter _
  ts := fun r hr => by
    obtain ⟨h1, h2⟩ := List.mem_filter.mp hr
    obtain ⟨x, y, hx, hy, hlt, rfl⟩ := K.ts r h1
    have h3 : a ∉ [x, y] := of_decide_eq_true h2
    simp only [List.mem_cons, List.not_mem_nil, or_false, not_or] at h3
    exact ⟨x, y, (List.mem_erase_of_ne (Ne.symm h3.1)).mpr hx, (List.mem_erase_of_ne (Ne.symm h3.2)).mpr hy, hlt, rfl⟩
/-- the tie of two names -/
def tieW (a b : PySem.Str) : List PySem.Str := [a, b].mergeSort wle
theorem tie_two (hne : a ≠ b) : (wk a < wk b ∧ tieW a b = [a, b]) ∨ (wk b < wk a ∧ tieW a b = [b, a]) := by
  unfold tieW
  by_cases h : wk a ≤ wk b
  · have hlt : wk a < wk b := (List.le_iff_lt_or_eq.mp h).resolve_right fun e => hne (wk_inj e)
    exact .inl ⟨hlt, List.mergeSort_of_pairwise (List.pairwise_pair.mpr (decide_eq_true h))⟩
  · have hlt := List.not_le.mp h
    refine .inr ⟨hlt, ?_⟩
    refine List.Perm.eq_of_pairwise (le := fun a b => wle a b = true) (fun a b _ _ h1 h2 => wle_anti h1 h2) (List.pairwise_mergeSort wle_trans wle_total _) (List.pairwise_pair.mpr (decide_eq_true (List.le_of_lt hlt))) ((List.mergeSort_perm _ _).trans (List.Perm.swap _ _ _))
def withT (T : List (List PySem.Str)) (t : List PySem.Str) : List (List PySem.Str) := if t ∈ T then T else T ++ [t]
theorem KW.tie (K : KW N T n) (ha : a ∈ N) (hb : b ∈ N) (hne : a ≠ b) : KW N (withT T (tieW a b)) n where
  nd := K.nd
  ok := K.ok
  len := K.len
  tnd := by
    unfold withT
    split
    · exact K.tnd
    · rename_i h
      exact List.nodup_append.mpr ⟨K.tnd, by simp, fun x hx y hy e => h (by rw [List.mem_singleton.mp hy] at e; exact e ▸ hx)⟩
  ts := fun r hr => by
    have : r ∈ T ∨ r = tieW a b := by
      unfold withT at hr
      split at hr
      · exact .inl hr
      · simpa using hr
    rcases this with h | rfl
    · exact K.ts r h
    · rcases tie_two hne with ⟨h, e⟩ | ⟨h, e⟩
      · exact ⟨a, b, ha, hb, h, e⟩
      · exact ⟨b, a, hb, ha, h, e⟩
def lessT (T : List (List PySem.Str)) (t : List PySem.Str) : List (List PySem.Str) := T.filter fun r => decide (r ≠ t)
theorem KW.untie (K : KW N T n) {t : List PySem.Str} : KW N (lessT T t) n where
  nd := K.nd
  ok := K.ok
  len := K.len
  tnd := K.tnd.filter _
  ts := fun r hr => K.ts r (List.mem_filter.mp hr).1
end
end Sy

namespace Sy
open PySem PySem.Spec PyProof.Rows L2
/-! ### going through all rows of names -/
def stepF (f : List (List PySem.Str)) (a : PySem.Str) : List (List PySem.Str) := f ++ f.map fun r => r ++ [a]
theorem most_iff {L : List PySem.Str} {T : List (List PySem.Str)} {n : Nat} {kind : PySem.Str} (W : WebOk L T n) {R : List PySem.Str} (hR : R.Sublist L) : mostB L T kind R = true ↔ R ∈ rowsK L T kind := by
  have hU := up_of W.srt W.nd
  have base : ∀ {kind : PySem.Str}, ¬ kind = "cover" → ∀ {R : List PySem.Str}, R.Sublist L → mostB L T kind R = true → Mx (goT T kind) L R := fun {kind} hc {R} hR h => by
    have hUR := hU.sublist hR
    unfold mostB at h
    rw [if_neg hc, Bool.and_eq_true] at h
    obtain ⟨h1, h2⟩ := h
    have cl := (kind_go W hc hUR fun a ha => hR.subset ha).mp h1
    refine ⟨hR, cl, fun a ha => ?_⟩
    cases hg : gwB (goT T kind) R a with
    | false => rfl
    | true =>
      obtain ⟨g1, g2⟩ := gwB_iff.mp hg
      have h3 := List.all_eq_true.mp h2 a ha
      rw [decide_eq_false g1, Bool.false_or, Bool.not_eq_true'] at h3
      have h4 : kindB T kind (insW R a) = true := by
        refine (kind_go W hc (up_insW hUR g1) fun x hx => ?_).mpr fun x hx y hy hne => ?_
        · rcases List.mem_append.mp (List.mem_mergeSort.mp hx) with z | z
          · exact hR.subset z
          · rw [List.mem_singleton.mp z]; exact ha
        · rcases List.mem_append.mp (List.mem_mergeSort.mp hx) with z | z <;> rcases List.mem_append.mp (List.mem_mergeSort.mp hy) with u | u
          · exact cl x z y u hne
          · rw [List.mem_singleton.mp u, goT_sy]
            rw [goT_sy]
            exact g2 x z
          · rw [List.mem_singleton.mp z, goT_sy]
            exact g2 y u
          · rw [List.mem_singleton.mp z, List.mem_singleton.mp u] at hne
            exact absurd rfl hne
      rw [h3] at h4
      cases h4
  refine ⟨fun h => ?_, most_rows W⟩
  by_cases hc : kind = "cover"
  · subst hc
    have e : R = resL L (resL L R) := by
      refine up_ext (hU.sublist hR) (up_res hU) fun x => ?_
      unfold resL
      simp only [List.mem_filter, decide_eq_true_eq, not_and, Classical.not_not]
      exact ⟨fun h => ⟨hR.subset h, fun _ => h⟩, fun h => h.2 h.1⟩
    rw [e] at h ⊢
    rw [← rest_most hU (up_res hU) (fun a ha => (res_sub L R).subset ha) W.sub] at h
    exact mem_rowsK_cover.mpr ⟨_, base (by decide +kernel) (res_sub L R) h, rfl⟩
  · unfold rowsK
    rw [if_neg hc]
    exact mem_rowsN.mpr (base hc hR h)
end Sy

namespace Sy
open PySem PySem.Spec PyProof.Rows L2
local macro_rules | `(tactic| simp! only [$ls,*]) => `(tactic| try simp only [callX_fold, mnA, mxA, strS, wB, wS, wT, wE, wA, wO, wC, tgS, binS, cmpS, biS, r1, r2, mtS, augS, cstS, splitS, opI_int, add_int, add_str, add_tup, add_ll, newL_f, newL_t, mul_int, ord_int, ord_str, int_int, int_bl, mn_int, mx_int, mn_str, mx_str, tuple_tup, tuple_tuf, tuple_lst, tuple_lstT, sl_lst, sl_tup, sl_scr, sl_str, it_lst, it_str, it_tup, it_tuf, it_enU, it_zU, it_rng1, it_rng2, it_enL, it_enT, it_zL, it_zT, List.set_cons_zero, List.set_cons_succ, List.getElem?_cons_zero, List.getElem?_cons_succ, some_ex, some_ex2, bl_ex, int_ex, eqS_int, idx_lst, idx_tup, idx_tuf, idx_str, len_lst, len_tup, len_tuf, len_scr, at_0, at_1, at_2, true_and, and_true, Int.fmod_eq_emod_of_nonneg, Int.fdiv_eq_ediv_of_nonneg, ne_eq, reduceCtorEq, not_false_eq_true, if_true, if_false, Bool.false_eq_true, decide_eq_true_eq, Int.reduceEq, Int.reduceLE, Int.reduceLT, $ls,*])
theorem nd_kx {l : List (List PySem.Str)} (h : l.Nodup) : (l.map kx).Nodup := by
  rw [List.Nodup, List.pairwise_map]
  exact h.imp fun hne e => hne (kx_inj e)
section
variable {Pr : PySem.Str → Option Def} {g : PySem.Str → Option SV}
end
end Sy

namespace Sy
def d_B_law_chain : Def := ⟨["web", "kind", "rows"], ["web", "kind", "rows", "steps", "row", "at", "behind"],
 (.cons (.asg (.one 3 "steps") (.var 2 "rows"))
 (.cons (.ifs (.cmp .Gt (.bi .len false (.cons (.var 2 "rows") .nil)) (.cst (.int 12))) (.cons (.asg (.one 3 "steps") (.bin .Add false (.sl false (.var 2 "rows") .none (.some (.cst (.int 2)))) (.sl false (.var 2 "rows") (.some (.neg (.cst (.int 2)))) .none)))
 .nil) .nil)
 (.cons (.for_ (.one 4 "row") .seq (.cons (.var 3 "steps") .nil) (.cons (.ifs (.or (.not (.call "is_of" (.cons (.var 0 "web") (.cons (.var 1 "kind") (.cons (.var 4 "row") .nil))))) (.or (.not (.call "is_greatest" (.cons (.var 0 "web") (.cons (.var 1 "kind") (.cons (.var 4 "row") .nil))))) (.cmp .NotEq (.call "filled" (.cons (.var 0 "web") (.cons (.var 1 "kind") (.cons (.var 4 "row") .nil)))) (.var 4 "row")))) (.cons (.ret (.cst (.bool false)))
 .nil) .nil)
 (.cons (.asg (.one 5 "at") (.mt .index false (.var 2 "rows") (.cons (.var 4 "row") .nil)))
 (.cons (.asg (.one 6 "behind") (.call "next_row" (.cons (.var 0 "web") (.cons (.var 1 "kind") (.cons (.var 4 "row") .nil)))))
 (.cons (.ifs (.or (.cmp .NotEq (.var 6 "behind") (.idx (.bin .Add false (.var 2 "rows") (.lst false (.cons (.cst .none) .nil))) (.bin .Add false (.var 5 "at") (.cst (.int 1))))) (.and (.cmp .IsNot (.var 6 "behind") (.cst .none)) (.not (.cmp .Lt (.var 4 "row") (.var 6 "behind"))))) (.cons (.ret (.cst (.bool false)))
 .nil) .nil)
 .nil)))))
 (.cons (.ret (.cst (.bool true)))
 .nil))))⟩

def d_law : Def := ⟨["script"], ["script", "web", "told", "kind", "left", "over", "rows", "row", "name"],
 (.cons (.asg (.one 1 "web") (.call "_law_web" (.cons (.var 0 "script") (.cons (.cst (.int 0)) (.cons (.idx (.lst false (.cons (.cst (.int 6)) (.cons (.cst (.int 6)) (.cons (.cst (.int 8)) (.cons (.cst (.int 10)) (.cons (.cst (.int 12)) (.cons (.cst (.int 14)) .nil))))))) (.bin .Mod false (.call "_law_number" (.cons (.var 0 "script") (.cons (.cst (.int 250)) .nil))) (.cst (.int 6)))) .nil)))))
 (.cons (.asg (.one 2 "told") (.dnew false))
 (.cons (.for_ (.one 3 "kind") .seq (.cons (.tup (.cons (.cst (.str "tied")) (.cons (.cst (.str "apart")) (.cons (.cst (.str "cover")) .nil)))) .nil) (.cons (.asg (.one 6 "rows") (.call "all_rows" (.cons (.var 1 "web") (.cons (.var 3 "kind") .nil))))
 (.cons (.setIx (.var 2 "told") (.var 3 "kind") (.var 6 "rows"))
 (.cons (.ifs (.or (.not (.call "_law_chain" (.cons (.var 1 "web") (.cons (.var 3 "kind") (.cons (.var 6 "rows") .nil))))) (.or (.cmp .NotEq (.var 6 "rows") (.bi .sorted false (.cons (.var 6 "rows") .nil))) (.cmp .NotEq (.setT true false (.var 6 "rows")) (.bi .len false (.cons (.var 6 "rows") .nil))))) (.cons (.ret (.cst (.bool false)))
 .nil) .nil)
 (.cons (.ifs (.and (.cmp .NotEq (.var 3 "kind") (.cst (.str "cover"))) (.cmp .NotEq (.idx (.var 6 "rows") (.cst (.int 0))) (.call "filled" (.cons (.var 1 "web") (.cons (.var 3 "kind") (.cons (.tup .nil) .nil)))))) (.cons (.ret (.cst (.bool false)))
 .nil) .nil)
 .nil)))))
 (.cons (.frz 2)
 (.cons (.asg (.one 4 "left") (.lc false [("row", 7)] (.bi .tuple false (.cons (.lc false [("name", 8)] (.var 8 "name") (.one 8 "name") .seq (.cons (.idx (.var 1 "web") (.cst (.int 0))) .nil) (.some (.cmp .NotIn (.var 8 "name") (.var 7 "row")))) .nil)) (.one 7 "row") .seq (.cons (.idx (.var 2 "told") (.cst (.str "apart"))) .nil) .none))
 (.cons (.ifs (.cmp .NotEq (.bi .sorted false (.cons (.var 4 "left") .nil)) (.idx (.var 2 "told") (.cst (.str "cover")))) (.cons (.ret (.cst (.bool false)))
 .nil) .nil)
 (.cons (.asg (.one 5 "over") (.call "turned_over" (.cons (.var 1 "web") .nil)))
 (.cons (.ret (.and (.cmp .Eq (.call "all_rows" (.cons (.var 5 "over") (.cons (.cst (.str "tied")) .nil))) (.idx (.var 2 "told") (.cst (.str "apart")))) (.cmp .Eq (.call "all_rows" (.cons (.var 5 "over") (.cons (.cst (.str "apart")) .nil))) (.idx (.var 2 "told") (.cst (.str "tied"))))))
 .nil))))))))⟩

def tabs : List (PySem.Str × Def) := (("tied_pairs" : PySem.Str), d_tied_pairs) :: (("go_together" : PySem.Str), d_go_together) :: (("goes_with" : PySem.Str), d_goes_with) :: (("rows_with" : PySem.Str), d_rows_with) :: (("all_rows" : PySem.Str), d_all_rows) :: (("next_row" : PySem.Str), d_next_row) :: (("pairs_of" : PySem.Str), d_pairs_of) :: (("turned_over" : PySem.Str), d_turned_over) :: (("is_of" : PySem.Str), d_is_of) :: (("with_one" : PySem.Str), d_with_one) :: (("without_one" : PySem.Str), d_without_one) :: (("is_greatest" : PySem.Str), d_is_greatest) :: (("filled" : PySem.Str), d_filled) :: (("_law_number" : PySem.Str), d_B_law_number) :: (("_law_names" : PySem.Str), d_B_law_names) :: (("_law_ways" : PySem.Str), d_B_law_ways) :: (("_law_web" : PySem.Str), d_B_law_web) :: (("_law_chain" : PySem.Str), d_B_law_chain) :: (("law" : PySem.Str), d_law) :: []
def Pr (f : PySem.Str) : Option Def := tabs.lookup f
def gl0 : PySem.Str → Option SV := fun _ => none
theorem p_tied_pairs : Pr "tied_pairs" = some d_tied_pairs := by rfl
theorem p_go_together : Pr "go_together" = some d_go_together := by rfl
theorem p_goes_with : Pr "goes_with" = some d_goes_with := by rfl
theorem p_rows_with : Pr "rows_with" = some d_rows_with := by rfl
theorem p_all_rows : Pr "all_rows" = some d_all_rows := by rfl
theorem p_next_row : Pr "next_row" = some d_next_row := by rfl
theorem p_pairs : Pr "pairs_of" = some d_pairs_of := by rfl
theorem p_turned_over : Pr "turned_over" = some d_turned_over := by rfl
theorem p_is_of : Pr "is_of" = some d_is_of := by rfl
theorem p_with_one : Pr "with_one" = some d_with_one := by rfl
theorem p_without_one : Pr "without_one" = some d_without_one := by rfl
theorem p_is_greatest : Pr "is_greatest" = some d_is_greatest := by rfl
theorem p_filled : Pr "filled" = some d_filled := by rfl
theorem p_number : Pr "_law_number" = some d_B_law_number := by rfl
theorem p_names : Pr "_law_names" = some d_B_law_names := by rfl
theorem p_ways : Pr "_law_ways" = some d_B_law_ways := by rfl
theorem p_web : Pr "_law_web" = some d_B_law_web := by rfl
theorem p_chain : Pr "_law_chain" = some d_B_law_chain := by rfl
theorem p_law : Pr "law" = some d_law := by rfl
end Sy

namespace Sy
open PySem PySem.Spec PyProof.Rows L2
theorem strL_w5 : ∀ A : List PySem.Str, strL (wS_ A) = some A
  | [] => rfl
  | a :: A => by
    show (strL (wS_ A)).map (fun r => a :: r) = _
    rw [strL_w5 A]
    rfl
theorem ord_row5 {f : Int → Int → Bool} {h : List Nat → List Nat → Bool} {t : List (List Nat) → List (List Nat) → Bool} {S : Sto} {x y : SV} {A B : List PySem.Str} {k : SK} (hx : Isr x A) (hy : Isr y B) (q : k (.bl (t (wks A) (wks B))) S) : ordS f h t x y S k := by
  rcases hx with rfl | rfl <;> rcases hy with rfl | rfl <;> exact ⟨_, _, _, _, rfl, strL_w5 A, rfl, strL_w5 B, q⟩
section
variable {L : List PySem.Str} {T : List (List PySem.Str)} {n : Nat} {kind : PySem.Str}
theorem rowsK_lt (nd : L.Nodup) : (rowsK L T kind).Pairwise fun a b => a.map wk < b.map wk := by
  have nk := nd_rowsK (T := T) (kind := kind) nd
  unfold rowsK at nk ⊢
  split
  · rename_i h
    rw [if_pos h] at nk
    exact msort_lt ((List.mergeSort_perm _ _).nodup_iff.mp nk)
  · exact rowsN_lt0 nd
theorem rowsK_srt (nd : L.Nodup) : (rowsK L T kind).mergeSort rle = rowsK L T kind :=
  List.Perm.eq_of_pairwise (le := fun a b => rle a b = true) (fun a b _ _ h1 h2 => rle_anti h1 h2) (List.pairwise_mergeSort rle_trans rle_total _) ((rowsK_lt nd).imp fun h => decide_eq_true (List.le_of_lt h)) (List.mergeSort_perm _ _)
theorem kind_of_row (W : WebOk L T n) {r : List PySem.Str} (hr : r ∈ rowsK L T kind) : kindB T kind r = true := by
  have := most_rows W hr
  unfold mostB at this
  exact (Bool.and_eq_true_iff.mp this).1
theorem fill_row (W : WebOk L T n) {r : List PySem.Str} (hr : r ∈ rowsK L T kind) : fillL L T kind r = r := by
  have m := most_rows W hr
  unfold fillL
  by_cases hc : kind = "cover"
  · rw [if_pos hc]
    unfold mostB at m
    rw [if_pos hc, Bool.and_eq_true, List.all_eq_true] at m
    exact foldC_same _ _ fun a ha => by simpa using m.2 a (List.mem_reverse.mp ha)
  · rw [if_neg hc]
    exact fold_same _ _ (most_no hc m).2
theorem row_up (W : WebOk L T n) {r : List PySem.Str} (hr : r ∈ rowsK L T kind) : Up r := by
  have hs := rowsK_sub (r := kind) hr
  have hU := up_of W.srt W.nd
  exact List.Pairwise.sublist hs hU
theorem first_fill (W : WebOk L T n) (hc : ¬ kind = "cover") {r : List PySem.Str} (hr : (rowsK L T kind)[0]? = some r) : fillL L T kind [] = r := by
  have hU := up_of W.srt W.nd
  have k0 : kindB T kind [] = true := by
    unfold kindB
    rw [if_neg hc]
    rfl
  obtain ⟨f1, f2, f3, f4, _⟩ := fill_most (T := T) (kind := kind) hU (R := []) List.Pairwise.nil (fun a h => by cases h) k0
  have hmem : fillL L T kind [] ∈ rowsK L T kind := (most_iff W (up_sublist f1 hU f2)).mp f4
  have hr' := List.mem_of_getElem? hr
  obtain ⟨m1, m2⟩ := most_no hc (most_rows W hr')
  have nlt := fillN_first hc hU (c := []) List.Pairwise.nil (fun a h => by cases h) k0 (row_up W hr') (fun a ha => (rowsK_sub (r := kind) hr').subset ha) m1 m2 (fun a h => by cases h)
  have e0 : fillL L T kind [] = L.foldl (stepN (kindB T kind)) [] := by unfold fillL; rw [if_neg hc]
  rw [← e0] at nlt
  obtain ⟨j, hj⟩ := List.getElem?_of_mem hmem
  cases j with
  | zero => rw [hr] at hj; exact (Option.some.inj hj).symm
  | succ j =>
    obtain ⟨p1, q1⟩ := List.getElem?_eq_some_iff.mp hr
    obtain ⟨p2, q2⟩ := List.getElem?_eq_some_iff.mp hj
    have := List.pairwise_iff_getElem.mp (rowsK_lt (T := T) (kind := kind) W.nd) 0 (j + 1) p1 p2 (by omega)
    rw [q1, q2] at this
    exact absurd this nlt
theorem keysU_enc {enc : List PySem.Str → SV} (he : ∀ r, Isr (enc r) r) : ∀ R : List (List PySem.Str), keysU (R.map enc) = some (R.map kx)
  | [] => rfl
  | r :: R => by
    show ((tupOf (enc r)).bind keysOf).bind (fun k => (keysU (R.map enc)).map fun q => k :: q) = _
    have e : tupOf (enc r) = some (wS_ r) := by rcases he r with h | h <;> rw [h] <;> rfl
    have e2 : keysOf (wS_ r) = some (kx r) := by
      have := tKey_row r
      exact this
    rw [e, Option.bind_some, e2, Option.bind_some, keysU_enc he R]
    rfl
theorem metX_nd_all {κ : Type} [DecidableEq κ] : ∀ {l acc : List κ}, (acc ++ l).Nodup → metX acc l = acc ++ l
  | [], acc, _ => by simp [metX]
  | x :: l, acc, h => by
    show metX (if x ∈ acc then acc else acc ++ [x]) l = _
    have hx : x ∉ acc := fun z => (List.nodup_append.mp h).2.2 x z x (by simp) rfl
    rw [if_neg hx, metX_nd_all (by rw [List.append_assoc]; exact h), List.append_assoc]
    rfl
theorem lset_rows {enc : List PySem.Str → SV} (he : ∀ r, Isr (enc r) r) {S : Sto} {R : List (List PySem.Str)} {k : SK} (nd : R.Nodup) (hl : R.length ≤ 1000) (q : k (.int (R.length : Nat)) S) : setTS true false (.lst (R.map enc)) S k := by
  refine ⟨_, _, rfl, keysU_enc he R, by rw [List.length_map]; exact hl, ?_⟩
  rw [metX_nd_all (by rw [List.nil_append]; exact nd_kx nd), List.nil_append, List.length_map]
  exact q
end
end Sy

namespace Sy
open PySem PySem.Spec PyProof.Rows L2
local macro_rules | `(tactic| simp! only [$ls,*]) => `(tactic| try simp only [callX_fold, mnA, mxA, strS, wB, wS, wT, wE, wA, wO, wC, tgS, binS, cmpS, biS, r1, r2, mtS, augS, cstS, splitS, opI_int, add_int, add_str, add_tup, add_ll, newL_f, newL_t, mul_int, ord_int, ord_str, int_int, int_bl, mn_int, mx_int, mn_str, mx_str, tuple_tup, tuple_tuf, tuple_lst, tuple_lstT, sl_lst, sl_tup, sl_scr, sl_str, it_lst, it_str, it_tup, it_tuf, it_enU, it_zU, it_rng1, it_rng2, it_enL, it_enT, it_zL, it_zT, List.set_cons_zero, List.set_cons_succ, List.getElem?_cons_zero, List.getElem?_cons_succ, some_ex, some_ex2, bl_ex, int_ex, eqS_int, idx_lst, idx_tup, idx_tuf, idx_str, len_lst, len_tup, len_tuf, len_scr, at_0, at_1, at_2, true_and, and_true, Int.fmod_eq_emod_of_nonneg, Int.fdiv_eq_ediv_of_nonneg, ne_eq, reduceCtorEq, not_false_eq_true, if_true, if_false, Bool.false_eq_true, decide_eq_true_eq, Int.reduceEq, Int.reduceLE, Int.reduceLT, $ls,*])
section
variable {L : List PySem.Str} {T : List (List PySem.Str)} {n k : Nat} {kind : PySem.Str} {S : Sto} {Q : SK}
theorem chain_ok (W : WebOk L T n) (hL : L.length ≤ 14) (hkind : PyData.strOk kind = true) {enc : List PySem.Str → SV} (he : ∀ r, Isr (enc r) r) (q : Q (.bl true) S) : callS Pr gl0 (k + 8) "_law_chain" [webS L T, .str kind, .lst ((rowsK L T kind).map enc)] S Q := by
  have big : (100000 : Nat) ≤ sizeLine := by decide
  have ok : ∀ a ∈ L, PyData.strOk a = true := fun a ha => low_ok (W.ok a ha).low
  have okT := ties_ab W
  have hT := ties_len W hL
  have okT2 : ∀ r ∈ T, ∃ a b, r = [a, b] ∧ PyData.strOk a = true ∧ PyData.strOk b = true := fun r hr => by
    obtain ⟨a, b, e, h1, h2⟩ := pairs_of_mem (W.sub r hr)
    exact ⟨a, b, e, ok a h1, ok b h2⟩
  have okr := rowsK_strOk (T := T) (kind := kind) ok
  have few := few_rowsK (T := T) (kind := kind) W.nd hL
  have nd := nd_rowsK (T := T) (kind := kind) W.nd
  have lt := rowsK_lt (T := T) (kind := kind) W.nd
  refine ⟨d_B_law_chain, p_chain, rfl, ?_⟩
  show wB _ _ d_B_law_chain.body _ [some (webS L T), some (.str kind), some (.lst ((rowsK L T kind).map enc)), none, none, none, none] S
  unfold d_B_law_chain
  simp! only [List.length_map]
  by_cases c : 12 < ((rowsK L T kind).length : Int)
  · rw [if_pos c, cut_map, cut_map, ← List.map_append]
    have c1 := cut_len (rowsK L T kind) none (some 2)
    have c2 := cut_len (rowsK L T kind) (some (-2)) none
    have hSt : ∀ r ∈ cutL (rowsK L T kind) none (some 2) ++ cutL (rowsK L T kind) (some (-2)) none, r ∈ rowsK L T kind := fun r hr => by
      rcases List.mem_append.mp hr with h | h
      · exact List.mem_of_mem_drop (List.mem_of_mem_take h)
      · exact List.mem_of_mem_drop (List.mem_of_mem_take h)
    refine ⟨by rw [List.length_map]; omega, by rw [List.length_map]; omega, by rw [List.length_map, List.length_append]; omega, ?_⟩
    generalize cutL (rowsK L T kind) none (some 2) ++ cutL (rowsK L T kind) (some (-2)) none = St at hSt ⊢
    refine for_inv (fun i ρ S' => S' = S ∧ ∃ v4 v5 v6, ρ = [some (webS L T), some (.str kind), some (.lst ((rowsK L T kind).map enc)), some (.lst (St.map enc)), v4, v5, v6]) ⟨rfl, none, none, none, rfl⟩ ?_ ?_
    · rintro i z ρ S' D hz ⟨rfl, v4, v5, v6, rfl⟩ nx _ _ _
      rw [List.getElem?_map] at hz
      obtain ⟨r, hr, rfl⟩ := Option.map_eq_some_iff.mp hz
      have hrk := hSt r (List.mem_of_getElem? hr)
      have hrs := rowsK_sub (r := kind) hrk
      have hrl : r.length ≤ 14 := Nat.le_trans hrs.length_le hL
      have okx := okr r hrk
      obtain ⟨j, hj⟩ := List.getElem?_of_mem hrk
      have hjl := (List.getElem?_eq_some_iff.mp hj).1
      simp! only []
      refine is_of_ok (k := k + 5) p_pairs p_is_of (he r) hkind (by omega) okx okT2 hT ?_
      rw [kind_of_row W hrk]
      simp! only [Bool.not_true]
      refine is_greatest_ok (k := k + 4) p_pairs p_is_of p_with_one p_without_one p_is_greatest (he r) hkind (by omega) ok (by omega) okx okT2 hT ?_
      rw [most_rows W hrk]
      simp! only [Bool.not_true]
      refine filled_ok (k := k + 4) p_pairs p_is_of p_with_one p_without_one p_filled (he r) hkind (by omega) ok (by omega) okx okT2 hT (kind_of_row W hrk) fun y hy => ?_
      rw [fill_row W hrk] at hy
      simp! only []
      rw [eqS_row hy (he r) okx okx, decide_eq_true rfl]
      simp! only [Bool.not_true]
      refine ⟨⟨_, rfl⟩, index_enc he nd (he r) hj okx okr ?_⟩
      have cmp : ∀ {D' : SD}, True := trivial
      refine next_row_ok (k := k) p_tied_pairs p_go_together p_goes_with p_rows_with p_all_rows p_next_row hkind hL W.nd ok okT hT (he r) hj (fun y r' h' hy => ?_) fun h' => ?_
      · have okx' := okr r' (List.mem_of_getElem? h')
        simp! only [List.length_cons, List.length_nil, List.length_map, List.length_append]
        refine ⟨by omega, by omega, enc r', ?_, ?_⟩
        · rw [show ((j : Nat) : Int) + 1 = ((j + 1 : Nat) : Int) by omega]
          refine atI_nat ?_
          rw [List.getElem?_append_left (by rw [List.length_map]; exact (List.getElem?_eq_some_iff.mp h').1), List.getElem?_map, h']
          rfl
        rw [eqS_row hy (he r') okx' okx', decide_eq_true rfl]
        have nn : isN y = false := by rcases hy with rfl | rfl <;> rfl
        simp! only [Bool.not_true, nn, Bool.not_false]
        refine ord_row5 (he r) hy ?_
        have hlt : wks r < wks r' := by
          obtain ⟨p1, q1⟩ := List.getElem?_eq_some_iff.mp hj
          obtain ⟨p2, q2⟩ := List.getElem?_eq_some_iff.mp h'
          have := List.pairwise_iff_getElem.mp lt j (j + 1) p1 p2 (by omega)
          rw [q1, q2] at this
          exact this
        rw [decide_eq_true hlt]
        simp! only [Bool.not_true]
        exact nx _ _ ⟨rfl, _, _, _, rfl⟩
      · have hjn : j + 1 = (rowsK L T kind).length := by
          have := List.getElem?_eq_none_iff.mp h'
          omega
        simp! only [List.length_cons, List.length_nil, List.length_map, List.length_append]
        refine ⟨by omega, by omega, .non, ?_, ?_⟩
        · rw [show ((j : Nat) : Int) + 1 = ((j + 1 : Nat) : Int) by omega]
          refine atI_nat ?_
          rw [List.getElem?_append_right (by rw [List.length_map]; omega), List.length_map, hjn, Nat.sub_self]
          rfl
        rw [eqS_non]
        simp! only [Bool.not_true, isN]
        exact nx _ _ ⟨rfl, _, _, _, rfl⟩
    · rintro ρ S' ⟨rfl, v4, v5, v6, rfl⟩
      exact fin_same q
  · rw [if_neg c]
    have hSt : ∀ r ∈ rowsK L T kind, r ∈ rowsK L T kind := fun r hr => hr
    refine for_inv (fun i ρ S' => S' = S ∧ ∃ v4 v5 v6, ρ = [some (webS L T), some (.str kind), some (.lst ((rowsK L T kind).map enc)), some (.lst ((rowsK L T kind).map enc)), v4, v5, v6]) ⟨rfl, none, none, none, rfl⟩ ?_ ?_
    · rintro i z ρ S' D hz ⟨rfl, v4, v5, v6, rfl⟩ nx _ _ _
      rw [List.getElem?_map] at hz
      obtain ⟨r, hr, rfl⟩ := Option.map_eq_some_iff.mp hz
      have hrk := hSt r (List.mem_of_getElem? hr)
      have hrs := rowsK_sub (r := kind) hrk
      have hrl : r.length ≤ 14 := Nat.le_trans hrs.length_le hL
      have okx := okr r hrk
      obtain ⟨j, hj⟩ := List.getElem?_of_mem hrk
      have hjl := (List.getElem?_eq_some_iff.mp hj).1
      simp! only []
      refine is_of_ok (k := k + 5) p_pairs p_is_of (he r) hkind (by omega) okx okT2 hT ?_
      rw [kind_of_row W hrk]
      simp! only [Bool.not_true]
      refine is_greatest_ok (k := k + 4) p_pairs p_is_of p_with_one p_without_one p_is_greatest (he r) hkind (by omega) ok (by omega) okx okT2 hT ?_
      rw [most_rows W hrk]
      simp! only [Bool.not_true]
      refine filled_ok (k := k + 4) p_pairs p_is_of p_with_one p_without_one p_filled (he r) hkind (by omega) ok (by omega) okx okT2 hT (kind_of_row W hrk) fun y hy => ?_
      rw [fill_row W hrk] at hy
      simp! only []
      rw [eqS_row hy (he r) okx okx, decide_eq_true rfl]
      simp! only [Bool.not_true]
      refine ⟨⟨_, rfl⟩, index_enc he nd (he r) hj okx okr ?_⟩
      have cmp : ∀ {D' : SD}, True := trivial
      refine next_row_ok (k := k) p_tied_pairs p_go_together p_goes_with p_rows_with p_all_rows p_next_row hkind hL W.nd ok okT hT (he r) hj (fun y r' h' hy => ?_) fun h' => ?_
      · have okx' := okr r' (List.mem_of_getElem? h')
        simp! only [List.length_cons, List.length_nil, List.length_map, List.length_append]
        refine ⟨by omega, by omega, enc r', ?_, ?_⟩
        · rw [show ((j : Nat) : Int) + 1 = ((j + 1 : Nat) : Int) by omega]
          refine atI_nat ?_
          rw [List.getElem?_append_left (by rw [List.length_map]; exact (List.getElem?_eq_some_iff.mp h').1), List.getElem?_map, h']
          rfl
        rw [eqS_row hy (he r') okx' okx', decide_eq_true rfl]
        have nn : isN y = false := by rcases hy with rfl | rfl <;> rfl
        simp! only [Bool.not_true, nn, Bool.not_false]
        refine ord_row5 (he r) hy ?_
        have hlt : wks r < wks r' := by
          obtain ⟨p1, q1⟩ := List.getElem?_eq_some_iff.mp hj
          obtain ⟨p2, q2⟩ := List.getElem?_eq_some_iff.mp h'
          have := List.pairwise_iff_getElem.mp lt j (j + 1) p1 p2 (by omega)
          rw [q1, q2] at this
          exact this
        rw [decide_eq_true hlt]
        simp! only [Bool.not_true]
        exact nx _ _ ⟨rfl, _, _, _, rfl⟩
      · have hjn : j + 1 = (rowsK L T kind).length := by
          have := List.getElem?_eq_none_iff.mp h'
          omega
        simp! only [List.length_cons, List.length_nil, List.length_map, List.length_append]
        refine ⟨by omega, by omega, .non, ?_, ?_⟩
        · rw [show ((j : Nat) : Int) + 1 = ((j + 1 : Nat) : Int) by omega]
          refine atI_nat ?_
          rw [List.getElem?_append_right (by rw [List.length_map]; omega), List.length_map, hjn, Nat.sub_self]
          rfl
        rw [eqS_non]
        simp! only [Bool.not_true, isN]
        exact nx _ _ ⟨rfl, _, _, _, rfl⟩
    · rintro ρ S' ⟨rfl, v4, v5, v6, rfl⟩
      exact fin_same q
end
def KS5 : List PySem.Str := ["tied", "apart", "cover"]
theorem KS5_ok : ∀ kind ∈ KS5, PyData.strOk kind = true := by decide +kernel
theorem KS5_nd : KS5.Nodup := by decide +kernel
theorem KS5_at {i : Nat} {y : SV} (h : [SV.str "tied", .str "apart", .str "cover"][i]? = some y) : ∃ kind, y = .str kind ∧ kind ∈ KS5 ∧ PyData.strOk kind = true ∧ kind ∉ KS5.take i ∧ KS5.take (i + 1) = KS5.take i ++ [kind] := by
  replace h : (KS5.map SV.str)[i]? = some y := h
  rw [List.getElem?_map] at h
  obtain ⟨kind, hk, rfl⟩ := Option.map_eq_some_iff.mp h
  have hm := List.mem_of_getElem? hk
  have e : KS5.take (i + 1) = KS5.take i ++ [kind] := by
    rw [List.take_add_one, hk]
    rfl
  refine ⟨kind, rfl, hm, KS5_ok _ hm, fun z => ?_, e⟩
  have nd := KS5_nd.sublist (List.take_sublist (i + 1) KS5)
  rw [e, List.nodup_append] at nd
  exact nd.2.2 _ z _ (by simp) rfl
theorem law_gives : Gives Pr gl0 40 := by
  intro ns hl
  have big : (100000 : Nat) ≤ sizeLine := by decide
  refine ⟨d_law, p_law, rfl, ?_⟩
  show wB _ _ d_law.body _ [some (.scr (ns.map SV.int)), none, none, none, none, none, none, none, none] (fun _ => none)
  unfold d_law
  simp! only [List.length_cons, List.length_nil]
  refine ⟨by omega, ?_⟩
  refine number_ok (k := 38) p_number hl (by decide) fun m0 m1 m2 => ?_
  simp! only []
  refine six_at (Int.emod_nonneg _ (by decide)) (Int.emod_lt_of_pos _ (by decide)) fun m h0 h1 => ?_
  simp! only []
  refine webB_ok (k := 36) p_number p_names p_ways p_web hl (by decide) h0 h1 fun L T W => ?_
  have ok : ∀ a ∈ L, PyData.strOk a = true := fun a ha => low_ok (W.ok a ha).low
  have hL : L.length ≤ 14 := Nat.le_trans W.len (by omega)
  have okT := ties_ab W
  have hT := ties_len W hL
  have okT2 : ∀ r ∈ T, ∃ a b, r = [a, b] ∧ PyData.strOk a = true ∧ PyData.strOk b = true := fun r hr => by
    obtain ⟨a, b, e, h1, h2⟩ := pairs_of_mem (W.sub r hr)
    exact ⟨a, b, e, ok a h1, ok b h2⟩
  simp! only []
  intro p hp
  simp! only [List.length_cons, List.length_nil]
  refine ⟨by omega, ?_⟩
  refine for_inv (fun i ρ S' => ∃ F : PySem.Str → SV, S' p = some (dW (KS5.take i) F) ∧ (∀ kind ∈ KS5.take i, ∃ enc, (∀ r, Isr (enc r) r) ∧ F kind = .lst ((rowsK L T kind).map enc)) ∧ (∀ a, a ≠ p → S' a = none) ∧ ∃ v3 v6 : Option SV, ρ = [some (.scr (ns.map SV.int)), some (webS L T), some (.own p), v3, none, none, v6, none, none])
    ⟨fun _ => .non, by rw [supd_same]; rfl, fun kind h => by simp at h, fun a h3 => by rw [supd_ne h3], _, _, rfl⟩ ?_ ?_
  · rintro i y ρ S' D hy ⟨F, hD, hF, fr, v3, v6, rfl⟩ nx _ rt _
    obtain ⟨kind, rfl, hkm, hkind, hki, hkt⟩ := KS5_at hy
    have few := few_rowsK (T := T) (kind := kind) W.nd hL
    have nd := nd_rowsK (T := T) (kind := kind) W.nd
    have okr := rowsK_strOk (T := T) (kind := kind) ok
    simp! only []
    refine all_rows_ok (k := 33) p_tied_pairs p_go_together p_goes_with p_rows_with p_all_rows hkind hL W.nd ok okT hT fun enc he => ?_
    simp! only []
    rw [set_dW hD, if_neg hki, ← hkt]
    refine ⟨by rw [List.length_take]; have : KS5.length = 3 := rfl; omega, ?_⟩
    have hD2 : supd S' p (dW (KS5.take (i + 1)) (upd1 F kind (.lst ((rowsK L T kind).map enc)))) p = some (dW (KS5.take (i + 1)) (upd1 F kind (.lst ((rowsK L T kind).map enc)))) := supd_same
    have fr2 : ∀ a, a ≠ p → supd S' p (dW (KS5.take (i + 1)) (upd1 F kind (.lst ((rowsK L T kind).map enc)))) a = none := fun a h => by rw [supd_ne h]; exact fr a h
    generalize supd S' p (dW (KS5.take (i + 1)) (upd1 F kind (.lst ((rowsK L T kind).map enc)))) = S2 at hD2 fr2
    have hF2 : ∀ kd ∈ KS5.take (i + 1), ∃ enc', (∀ r, Isr (enc' r) r) ∧ upd1 F kind (.lst ((rowsK L T kind).map enc)) kd = .lst ((rowsK L T kd).map enc') := fun kd hkd => by
      rw [hkt] at hkd
      by_cases e : kd = kind
      · subst e
        exact ⟨enc, he, if_pos rfl⟩
      · rcases List.mem_append.mp hkd with h | h
        · obtain ⟨e1, e2, e3⟩ := hF kd h
          exact ⟨e1, e2, (if_neg e).trans e3⟩
        · exact absurd (List.mem_singleton.mp h) e
    refine chain_ok (k := 31) W hL hkind he ?_
    simp! only [Bool.not_true]
    rw [sorted_encE he (src_seq rfl), rowsK_srt W.nd, newL_f]
    refine ⟨by rw [List.length_map]; omega, ?_⟩
    rw [eqS_ll (toDS_encL he _) (toDS_encL he _) okr okr, decide_eq_true rfl]
    simp! only [Bool.not_true]
    refine lset_rows he nd (by omega) ?_
    simp! only [List.length_map]
    rw [if_neg (by decide)]
    rw [eqS_str hkind (show PyData.strOk "cover" = true by decide +kernel)]
    by_cases hc : kind = "cover"
    · rw [decide_eq_true hc]
      simp! only [Bool.not_true]
      exact nx _ _ ⟨_, hD2, hF2, fr2, _, _, rfl⟩
    · rw [decide_eq_false hc]
      simp! only [Bool.not_false]
      have hpos := rowsK_ne (T := T) (kind := kind) W.nd
      obtain ⟨r, hr⟩ : ∃ r, (rowsK L T kind)[0]? = some r := ⟨_, List.getElem?_eq_getElem hpos⟩
      have okr0 := okr r (List.mem_of_getElem? hr)
      have k0 : kindB T kind [] = true := by
        unfold kindB
        rw [if_neg hc]
        rfl
      refine ⟨enc r, atI_nat (j := 0) (by rw [List.getElem?_map, hr]; rfl), ?_⟩
      refine ⟨by omega, ?_⟩
      refine filled_ok (k := 36) (R := []) p_pairs p_is_of p_with_one p_without_one p_filled (.inl rfl) hkind (by omega) ok (by simp) (fun a h => by cases h) okT2 hT k0 fun y hy => ?_
      rw [first_fill W hc hr] at hy
      rw [eqS_row (he r) hy okr0 okr0, decide_eq_true rfl]
      simp! only [Bool.not_true]
      exact nx _ _ ⟨_, hD2, hF2, fr2, _, _, rfl⟩
  · rintro ρ S' ⟨F, hD, hF, fr, v3, v6, rfl⟩
    replace hD : S' p = some (dW KS5 F) := hD
    replace hF : ∀ kind ∈ KS5, ∃ enc, (∀ r, Isr (enc r) r) ∧ F kind = .lst ((rowsK L T kind).map enc) := hF
    refine ⟨p, wo S' p, .dK (kW KS5) (KS5.map F), rfl, wo_sub, .dK hD wo_same, ?_⟩
    have hS : wo S' p = fun _ => none := funext fun a => by
      by_cases h4 : a = p
      · rw [h4, wo_same]
      · rw [wo_ne h4]
        exact fr a h4
    rw [hS]
    clear hS fr hD S' hp
    have ds : ∀ (S : Sto) (f : PySem.Str → SV), dicS S (.dK (kW KS5) (KS5.map f)) = some (dW KS5 f) := fun _ _ => rfl
    have c1 : ("tied" : PySem.Str) ∈ KS5 := by decide +kernel
    have c2 : ("apart" : PySem.Str) ∈ KS5 := by decide +kernel
    have c3 : ("cover" : PySem.Str) ∈ KS5 := by decide +kernel
    have kt := KS5_ok _ c1
    have ka := KS5_ok _ c2
    have kc := KS5_ok _ c3
    obtain ⟨e1, he1, f1⟩ := hF _ c1
    obtain ⟨e2, he2, f2⟩ := hF _ c2
    obtain ⟨e3, he3, f3⟩ := hF _ c3
    have l2 := few_rowsK (T := T) (kind := "apart") W.nd hL
    have l3 := few_rowsK (T := T) (kind := "cover") W.nd hL
    have okr1 := rowsK_strOk (T := T) (kind := "tied") ok
    have okr2 := rowsK_strOk (T := T) (kind := "apart") ok
    have okr3 := rowsK_strOk (T := T) (kind := "cover") ok
    have eN : rowsK L T "apart" = rowsN L T "apart" := if_neg (by decide +kernel)
    simp! only [idx_dW (ds _ _) c2, f2, wipeR, List.map_cons, List.map_nil]
    refine lc_on e2 (fun r => some (uS (resL L r))) (by omega) (fun r hr kk kf h1 h2 => ?_) ?_
    · simp! only []
      refine lc_rest (R := r) (by omega) (fun a ha k2 k2' g1 g2 => ?_) ?_
      · simp! only [wipeR, List.map_cons, List.map_nil, inK_row (he2 r) (ok a ha) (okr2 r hr)]
        by_cases h : a ∈ r
        · rw [decide_eq_true h]
          simp! only [Bool.xor_self]
          exact g2 h
        · rw [decide_eq_false h]
          simp! only [Bool.true_xor, Bool.not_false]
          exact g1 h
      have := res_len L r
      simp! only [List.length_map]
      exact ⟨by omega, h1 _ rfl⟩
    rw [show (rowsK L T "apart").filterMap (fun r => some (uS (resL L r))) = ((rowsK L T "apart").map (resL L)).map uS by rw [List.map_map, ← List.filterMap_eq_map]; rfl]
    refine ⟨by rw [List.length_map, List.length_map]; omega, ?_⟩
    rw [sorted_encE (enc := uS) (fun r => .inr rfl) (src_seq rfl), newL_f]
    have eC : ((rowsK L T "apart").map (resL L)).mergeSort rle = rowsK L T "cover" := by
      rw [eN]
      exact (if_pos rfl).symm
    rw [eC]
    refine ⟨by rw [List.length_map]; omega, ?_⟩
    rw [idx_dW (ds _ _) c3, f3, eqS_ll (toDS_encL (fun r => .inr rfl) _) (toDS_encL he3 _) okr3 okr3, decide_eq_true rfl]
    simp! only [Bool.not_true]
    refine turned_ok (k := 37) p_pairs p_turned_over (by omega) ok W.sub ?_
    have W' := turn_web W
    have okT' := ties_ab W'
    have hT' := ties_len W' hL
    refine all_rows_ok (k := 33) p_tied_pairs p_go_together p_goes_with p_rows_with p_all_rows kt hL W.nd ok okT' hT' fun enc he => ?_
    rw [rows_turnT W, eqS_ll (toDS_encL he _) (toDS_encL he2 _) okr2 okr2, decide_eq_true rfl]
    simp! only []
    refine all_rows_ok (k := 33) p_tied_pairs p_go_together p_goes_with p_rows_with p_all_rows ka hL W.nd ok okT' hT' fun enc he => ?_
    rw [rows_turnA W, idx_dW (ds _ _) c1, f1, eqS_ll (toDS_encL he _) (toDS_encL he1 _) okr1 okr1, decide_eq_true rfl]
    exact fin_same rfl
end Sy

namespace Lk
open PySem PySem.Spec PyProof.Rows L2 Sy
def top (i : Nat) : Stmt := PySem.Challenge.pw_eachgreatest_k15_whole_rows_one_behind_a.main.body.getD i (.Pass ⟨0, 0, 0, 0⟩)
abbrev s_tied_pairs : Stmt := top 4
abbrev s_go_together : Stmt := top 5
abbrev s_goes_with : Stmt := top 6
abbrev s_rows_with : Stmt := top 7
abbrev s_all_rows : Stmt := top 8
abbrev s_next_row : Stmt := top 9
abbrev s_pairs_of : Stmt := top 11
abbrev s_turned_over : Stmt := top 12
abbrev s_is_of : Stmt := top 14
abbrev s_with_one : Stmt := top 15
abbrev s_without_one : Stmt := top 16
abbrev s_is_greatest : Stmt := top 17
abbrev s_filled : Stmt := top 18
abbrev s_B_law_number : Stmt := top 20
abbrev s_B_law_names : Stmt := top 21
abbrev s_B_law_ways : Stmt := top 22
abbrev s_B_law_web : Stmt := top 23
abbrev s_B_law_chain : Stmt := top 24
abbrev s_law : Stmt := top 25
abbrev names : List PySem.Str := "tied_pairs" :: "go_together" :: "goes_with" :: "rows_with" :: "all_rows" :: "next_row" :: "pairs_of" :: "turned_over" :: "is_of" :: "with_one" :: "without_one" :: "is_greatest" :: "filled" :: "_law_number" :: "_law_names" :: "_law_ways" :: "_law_web" :: "_law_chain" :: "law" :: []
abbrev excs : List PySem.Str := []
abbrev mths : List (PySem.Str × PySem.Str × PySem.Str) := []
abbrev mnames : List PySem.Str := []
theorem sc_tied_pairs : FnScope d_tied_pairs.N d_tied_pairs.ps (defScope s_tied_pairs) := ⟨rfl, rfl, rfl, by decide +kernel, rfl, by decide +kernel, by decide +kernel⟩
theorem cb_tied_pairs : cB ⟨d_tied_pairs.N, names, excs, false, mths⟩ (defScope s_tied_pairs) d_tied_pairs.body (defBody s_tied_pairs) = true := by decide +kernel
theorem sc_go_together : FnScope d_go_together.N d_go_together.ps (defScope s_go_together) := ⟨rfl, rfl, rfl, by decide +kernel, rfl, by decide +kernel, by decide +kernel⟩
theorem cb_go_together : cB ⟨d_go_together.N, names, excs, false, mths⟩ (defScope s_go_together) d_go_together.body (defBody s_go_together) = true := by decide +kernel
theorem sc_goes_with : FnScope d_goes_with.N d_goes_with.ps (defScope s_goes_with) := ⟨rfl, rfl, rfl, by decide +kernel, rfl, by decide +kernel, by decide +kernel⟩
theorem cb_goes_with : cB ⟨d_goes_with.N, names, excs, false, mths⟩ (defScope s_goes_with) d_goes_with.body (defBody s_goes_with) = true := by decide +kernel
theorem sc_rows_with : FnScope d_rows_with.N d_rows_with.ps (defScope s_rows_with) := ⟨rfl, rfl, rfl, by decide +kernel, rfl, by decide +kernel, by decide +kernel⟩
theorem cb_rows_with : cB ⟨d_rows_with.N, names, excs, false, mths⟩ (defScope s_rows_with) d_rows_with.body (defBody s_rows_with) = true := by decide +kernel
theorem sc_all_rows : FnScope d_all_rows.N d_all_rows.ps (defScope s_all_rows) := ⟨rfl, rfl, rfl, by decide +kernel, rfl, by decide +kernel, by decide +kernel⟩
theorem cb_all_rows : cB ⟨d_all_rows.N, names, excs, true, mths⟩ (defScope s_all_rows) d_all_rows.body (defBody s_all_rows) = true := by decide +kernel
theorem sc_next_row : FnScope d_next_row.N d_next_row.ps (defScope s_next_row) := ⟨rfl, rfl, rfl, by decide +kernel, rfl, by decide +kernel, by decide +kernel⟩
theorem cb_next_row : cB ⟨d_next_row.N, names, excs, false, mths⟩ (defScope s_next_row) d_next_row.body (defBody s_next_row) = true := by decide +kernel
theorem sc_pairs_of : FnScope d_pairs_of.N d_pairs_of.ps (defScope s_pairs_of) := ⟨rfl, rfl, rfl, by decide +kernel, rfl, by decide +kernel, by decide +kernel⟩
theorem cb_pairs_of : cB ⟨d_pairs_of.N, names, excs, false, mths⟩ (defScope s_pairs_of) d_pairs_of.body (defBody s_pairs_of) = true := by decide +kernel
theorem sc_turned_over : FnScope d_turned_over.N d_turned_over.ps (defScope s_turned_over) := ⟨rfl, rfl, rfl, by decide +kernel, rfl, by decide +kernel, by decide +kernel⟩
theorem cb_turned_over : cB ⟨d_turned_over.N, names, excs, false, mths⟩ (defScope s_turned_over) d_turned_over.body (defBody s_turned_over) = true := by decide +kernel
theorem sc_is_of : FnScope d_is_of.N d_is_of.ps (defScope s_is_of) := ⟨rfl, rfl, rfl, by decide +kernel, rfl, by decide +kernel, by decide +kernel⟩
theorem cb_is_of : cB ⟨d_is_of.N, names, excs, false, mths⟩ (defScope s_is_of) d_is_of.body (defBody s_is_of) = true := by decide +kernel
theorem sc_with_one : FnScope d_with_one.N d_with_one.ps (defScope s_with_one) := ⟨rfl, rfl, rfl, by decide +kernel, rfl, by decide +kernel, by decide +kernel⟩
theorem cb_with_one : cB ⟨d_with_one.N, names, excs, false, mths⟩ (defScope s_with_one) d_with_one.body (defBody s_with_one) = true := by decide +kernel
theorem sc_without_one : FnScope d_without_one.N d_without_one.ps (defScope s_without_one) := ⟨rfl, rfl, rfl, by decide +kernel, rfl, by decide +kernel, by decide +kernel⟩
theorem cb_without_one : cB ⟨d_without_one.N, names, excs, false, mths⟩ (defScope s_without_one) d_without_one.body (defBody s_without_one) = true := by decide +kernel
theorem sc_is_greatest : FnScope d_is_greatest.N d_is_greatest.ps (defScope s_is_greatest) := ⟨rfl, rfl, rfl, by decide +kernel, rfl, by decide +kernel, by decide +kernel⟩
theorem cb_is_greatest : cB ⟨d_is_greatest.N, names, excs, false, mths⟩ (defScope s_is_greatest) d_is_greatest.body (defBody s_is_greatest) = true := by decide +kernel
theorem sc_filled : FnScope d_filled.N d_filled.ps (defScope s_filled) := ⟨rfl, rfl, rfl, by decide +kernel, rfl, by decide +kernel, by decide +kernel⟩
theorem cb_filled : cB ⟨d_filled.N, names, excs, false, mths⟩ (defScope s_filled) d_filled.body (defBody s_filled) = true := by decide +kernel
theorem sc_B_law_number : FnScope d_B_law_number.N d_B_law_number.ps (defScope s_B_law_number) := ⟨rfl, rfl, rfl, by decide +kernel, rfl, by decide +kernel, by decide +kernel⟩
theorem cb_B_law_number : cB ⟨d_B_law_number.N, names, excs, false, mths⟩ (defScope s_B_law_number) d_B_law_number.body (defBody s_B_law_number) = true := by decide +kernel
theorem sc_B_law_names : FnScope d_B_law_names.N d_B_law_names.ps (defScope s_B_law_names) := ⟨rfl, rfl, rfl, by decide +kernel, rfl, by decide +kernel, by decide +kernel⟩
theorem cb_B_law_names : cB ⟨d_B_law_names.N, names, excs, false, mths⟩ (defScope s_B_law_names) d_B_law_names.body (defBody s_B_law_names) = true := by decide +kernel
theorem sc_B_law_ways : FnScope d_B_law_ways.N d_B_law_ways.ps (defScope s_B_law_ways) := ⟨rfl, rfl, rfl, by decide +kernel, rfl, by decide +kernel, by decide +kernel⟩
theorem cb_B_law_ways : cB ⟨d_B_law_ways.N, names, excs, false, mths⟩ (defScope s_B_law_ways) d_B_law_ways.body (defBody s_B_law_ways) = true := by decide +kernel
theorem sc_B_law_web : FnScope d_B_law_web.N d_B_law_web.ps (defScope s_B_law_web) := ⟨rfl, rfl, rfl, by decide +kernel, rfl, by decide +kernel, by decide +kernel⟩
theorem cb_B_law_web : cB ⟨d_B_law_web.N, names, excs, false, mths⟩ (defScope s_B_law_web) d_B_law_web.body (defBody s_B_law_web) = true := by decide +kernel
theorem sc_B_law_chain : FnScope d_B_law_chain.N d_B_law_chain.ps (defScope s_B_law_chain) := ⟨rfl, rfl, rfl, by decide +kernel, rfl, by decide +kernel, by decide +kernel⟩
theorem cb_B_law_chain : cB ⟨d_B_law_chain.N, names, excs, false, mths⟩ (defScope s_B_law_chain) d_B_law_chain.body (defBody s_B_law_chain) = true := by decide +kernel
theorem sc_law : FnScope d_law.N d_law.ps (defScope s_law) := ⟨rfl, rfl, rfl, by decide +kernel, rfl, by decide +kernel, by decide +kernel⟩
theorem cb_law : cB ⟨d_law.N, names, excs, false, mths⟩ (defScope s_law) d_law.body (defBody s_law) = true := by decide +kernel
theorem all_mk {l : PySem.W.OpenLaw} {w : World} {K : PySem.W.Frag} {h : Heap} {mg : PySem.Str → Option Value} {fa : Addr} (X : K.In h) (G : h.Ns mainGlobals mg) (hfa : mg "law" = some (.ref fa))
    {f1 f2 f3 f4 f5 f6 f7 f8 f9 f10 f11 f12 f13 f14 f15 f16 f17 f18 f19 : Addr} {od1 an1 od2 an2 od3 an3 od4 an4 od5 an5 od6 an6 od7 an7 od8 an8 od9 an9 od10 an10 od11 an11 od12 an12 od13 an13 od14 an14 od15 an15 od16 an16 od17 an17 od18 an18 od19 an19 : Option Addr} {sl1 sl2 sl3 sl4 sl5 sl6 sl7 sl8 sl9 sl10 sl11 sl12 sl13 sl14 sl15 sl16 sl17 sl18 sl19 : Array (Option Value)} {oc1 kV1 dc1 pm1 cd1 ct1 oc2 kV2 dc2 pm2 cd2 ct2 oc3 kV3 dc3 pm3 cd3 ct3 oc4 kV4 dc4 pm4 cd4 ct4 oc5 kV5 dc5 pm5 cd5 ct5 oc6 kV6 dc6 pm6 cd6 ct6 oc7 kV7 dc7 pm7 cd7 ct7 oc8 kV8 dc8 pm8 cd8 ct8 oc9 kV9 dc9 pm9 cd9 ct9 oc10 kV10 dc10 pm10 cd10 ct10 oc11 kV11 dc11 pm11 cd11 ct11 oc12 kV12 dc12 pm12 cd12 ct12 oc13 kV13 dc13 pm13 cd13 ct13 oc14 kV14 dc14 pm14 cd14 ct14 oc15 kV15 dc15 pm15 cd15 ct15 oc16 kV16 dc16 pm16 cd16 ct16 oc17 kV17 dc17 pm17 cd17 ct17 oc18 kV18 dc18 pm18 cd18 ct18 oc19 kV19 dc19 pm19 cd19 ct19 : Value}
    (a1 : PySem.W.nsIn K mainGlobals "tied_pairs" = some (some (.ref f1))) (l1 : K.lookup f1 = some ⟨oc1, od1, .func (PySem.W.fnOf "tied_pairs" "tied_pairs" (defArgs s_tied_pairs) (defBody s_tied_pairs) (defScope s_tied_pairs) .none kV1 dc1 pm1 an1 cd1 ct1), sl1⟩) (c1 : PySem.W.codeIn K cd1 "tied_pairs" = true) (k1 : PySem.W.keepIn K (.ref f1) = true)
    (a2 : PySem.W.nsIn K mainGlobals "go_together" = some (some (.ref f2))) (l2 : K.lookup f2 = some ⟨oc2, od2, .func (PySem.W.fnOf "go_together" "go_together" (defArgs s_go_together) (defBody s_go_together) (defScope s_go_together) .none kV2 dc2 pm2 an2 cd2 ct2), sl2⟩) (c2 : PySem.W.codeIn K cd2 "go_together" = true) (k2 : PySem.W.keepIn K (.ref f2) = true)
    (a3 : PySem.W.nsIn K mainGlobals "goes_with" = some (some (.ref f3))) (l3 : K.lookup f3 = some ⟨oc3, od3, .func (PySem.W.fnOf "goes_with" "goes_with" (defArgs s_goes_with) (defBody s_goes_with) (defScope s_goes_with) .none kV3 dc3 pm3 an3 cd3 ct3), sl3⟩) (c3 : PySem.W.codeIn K cd3 "goes_with" = true) (k3 : PySem.W.keepIn K (.ref f3) = true)
    (a4 : PySem.W.nsIn K mainGlobals "rows_with" = some (some (.ref f4))) (l4 : K.lookup f4 = some ⟨oc4, od4, .func (PySem.W.fnOf "rows_with" "rows_with" (defArgs s_rows_with) (defBody s_rows_with) (defScope s_rows_with) .none kV4 dc4 pm4 an4 cd4 ct4), sl4⟩) (c4 : PySem.W.codeIn K cd4 "rows_with" = true) (k4 : PySem.W.keepIn K (.ref f4) = true)
    (a5 : PySem.W.nsIn K mainGlobals "all_rows" = some (some (.ref f5))) (l5 : K.lookup f5 = some ⟨oc5, od5, .func (PySem.W.fnOf "all_rows" "all_rows" (defArgs s_all_rows) (defBody s_all_rows) (defScope s_all_rows) .none kV5 dc5 pm5 an5 cd5 ct5), sl5⟩) (c5 : PySem.W.codeIn K cd5 "all_rows" = true) (k5 : PySem.W.keepIn K (.ref f5) = true)
    (a6 : PySem.W.nsIn K mainGlobals "next_row" = some (some (.ref f6))) (l6 : K.lookup f6 = some ⟨oc6, od6, .func (PySem.W.fnOf "next_row" "next_row" (defArgs s_next_row) (defBody s_next_row) (defScope s_next_row) .none kV6 dc6 pm6 an6 cd6 ct6), sl6⟩) (c6 : PySem.W.codeIn K cd6 "next_row" = true) (k6 : PySem.W.keepIn K (.ref f6) = true)
    (a7 : PySem.W.nsIn K mainGlobals "pairs_of" = some (some (.ref f7))) (l7 : K.lookup f7 = some ⟨oc7, od7, .func (PySem.W.fnOf "pairs_of" "pairs_of" (defArgs s_pairs_of) (defBody s_pairs_of) (defScope s_pairs_of) .none kV7 dc7 pm7 an7 cd7 ct7), sl7⟩) (c7 : PySem.W.codeIn K cd7 "pairs_of" = true) (k7 : PySem.W.keepIn K (.ref f7) = true)
    (a8 : PySem.W.nsIn K mainGlobals "turned_over" = some (some (.ref f8))) (l8 : K.lookup f8 = some ⟨oc8, od8, .func (PySem.W.fnOf "turned_over" "turned_over" (defArgs s_turned_over) (defBody s_turned_over) (defScope s_turned_over) .none kV8 dc8 pm8 an8 cd8 ct8), sl8⟩) (c8 : PySem.W.codeIn K cd8 "turned_over" = true) (k8 : PySem.W.keepIn K (.ref f8) = true)
    (a9 : PySem.W.nsIn K mainGlobals "is_of" = some (some (.ref f9))) (l9 : K.lookup f9 = some ⟨oc9, od9, .func (PySem.W.fnOf "is_of" "is_of" (defArgs s_is_of) (defBody s_is_of) (defScope s_is_of) .none kV9 dc9 pm9 an9 cd9 ct9), sl9⟩) (c9 : PySem.W.codeIn K cd9 "is_of" = true) (k9 : PySem.W.keepIn K (.ref f9) = true)
    (a10 : PySem.W.nsIn K mainGlobals "with_one" = some (some (.ref f10))) (l10 : K.lookup f10 = some ⟨oc10, od10, .func (PySem.W.fnOf "with_one" "with_one" (defArgs s_with_one) (defBody s_with_one) (defScope s_with_one) .none kV10 dc10 pm10 an10 cd10 ct10), sl10⟩) (c10 : PySem.W.codeIn K cd10 "with_one" = true) (k10 : PySem.W.keepIn K (.ref f10) = true)
    (a11 : PySem.W.nsIn K mainGlobals "without_one" = some (some (.ref f11))) (l11 : K.lookup f11 = some ⟨oc11, od11, .func (PySem.W.fnOf "without_one" "without_one" (defArgs s_without_one) (defBody s_without_one) (defScope s_without_one) .none kV11 dc11 pm11 an11 cd11 ct11), sl11⟩) (c11 : PySem.W.codeIn K cd11 "without_one" = true) (k11 : PySem.W.keepIn K (.ref f11) = true)
    (a12 : PySem.W.nsIn K mainGlobals "is_greatest" = some (some (.ref f12))) (l12 : K.lookup f12 = some ⟨oc12, od12, .func (PySem.W.fnOf "is_greatest" "is_greatest" (defArgs s_is_greatest) (defBody s_is_greatest) (defScope s_is_greatest) .none kV12 dc12 pm12 an12 cd12 ct12), sl12⟩) (c12 : PySem.W.codeIn K cd12 "is_greatest" = true) (k12 : PySem.W.keepIn K (.ref f12) = true)
    (a13 : PySem.W.nsIn K mainGlobals "filled" = some (some (.ref f13))) (l13 : K.lookup f13 = some ⟨oc13, od13, .func (PySem.W.fnOf "filled" "filled" (defArgs s_filled) (defBody s_filled) (defScope s_filled) .none kV13 dc13 pm13 an13 cd13 ct13), sl13⟩) (c13 : PySem.W.codeIn K cd13 "filled" = true) (k13 : PySem.W.keepIn K (.ref f13) = true)
    (a14 : PySem.W.nsIn K mainGlobals "_law_number" = some (some (.ref f14))) (l14 : K.lookup f14 = some ⟨oc14, od14, .func (PySem.W.fnOf "_law_number" "_law_number" (defArgs s_B_law_number) (defBody s_B_law_number) (defScope s_B_law_number) .none kV14 dc14 pm14 an14 cd14 ct14), sl14⟩) (c14 : PySem.W.codeIn K cd14 "_law_number" = true) (k14 : PySem.W.keepIn K (.ref f14) = true)
    (a15 : PySem.W.nsIn K mainGlobals "_law_names" = some (some (.ref f15))) (l15 : K.lookup f15 = some ⟨oc15, od15, .func (PySem.W.fnOf "_law_names" "_law_names" (defArgs s_B_law_names) (defBody s_B_law_names) (defScope s_B_law_names) .none kV15 dc15 pm15 an15 cd15 ct15), sl15⟩) (c15 : PySem.W.codeIn K cd15 "_law_names" = true) (k15 : PySem.W.keepIn K (.ref f15) = true)
    (a16 : PySem.W.nsIn K mainGlobals "_law_ways" = some (some (.ref f16))) (l16 : K.lookup f16 = some ⟨oc16, od16, .func (PySem.W.fnOf "_law_ways" "_law_ways" (defArgs s_B_law_ways) (defBody s_B_law_ways) (defScope s_B_law_ways) .none kV16 dc16 pm16 an16 cd16 ct16), sl16⟩) (c16 : PySem.W.codeIn K cd16 "_law_ways" = true) (k16 : PySem.W.keepIn K (.ref f16) = true)
    (a17 : PySem.W.nsIn K mainGlobals "_law_web" = some (some (.ref f17))) (l17 : K.lookup f17 = some ⟨oc17, od17, .func (PySem.W.fnOf "_law_web" "_law_web" (defArgs s_B_law_web) (defBody s_B_law_web) (defScope s_B_law_web) .none kV17 dc17 pm17 an17 cd17 ct17), sl17⟩) (c17 : PySem.W.codeIn K cd17 "_law_web" = true) (k17 : PySem.W.keepIn K (.ref f17) = true)
    (a18 : PySem.W.nsIn K mainGlobals "_law_chain" = some (some (.ref f18))) (l18 : K.lookup f18 = some ⟨oc18, od18, .func (PySem.W.fnOf "_law_chain" "_law_chain" (defArgs s_B_law_chain) (defBody s_B_law_chain) (defScope s_B_law_chain) .none kV18 dc18 pm18 an18 cd18 ct18), sl18⟩) (c18 : PySem.W.codeIn K cd18 "_law_chain" = true) (k18 : PySem.W.keepIn K (.ref f18) = true)
    (a19 : PySem.W.nsIn K mainGlobals "law" = some (some (.ref f19))) (l19 : K.lookup f19 = some ⟨oc19, od19, .func (PySem.W.fnOf "law" "law" (defArgs s_law) (defBody s_law) (defScope s_law) .none kV19 dc19 pm19 an19 cd19 ct19), sl19⟩) (c19 : PySem.W.codeIn K cd19 "law" = true) (k19 : PySem.W.keepIn K (.ref f19) = true)
    {eAR : Value} {dAR : Option Addr} {vAR : Array Value} {zAR : Array (Option Value)} {cAR pAR : Addr}
    (q_cd : cd5 = .ref cAR)
    (q_lc : K.lookup cAR = some ⟨eAR, dAR, .fields vAR, zAR⟩)
    (q_v : vAR[11]? = some (.ref pAR))
    (q_p : K.lookup pAR = none)
    (z_len : PySem.W.nsIn K mainGlobals "len" = some none)
    (z_sorted : PySem.W.nsIn K mainGlobals "sorted" = some none)
    (z_tuple : PySem.W.nsIn K mainGlobals "tuple" = some none)
    (z_list : PySem.W.nsIn K mainGlobals "list" = some none)
    (z_min : PySem.W.nsIn K mainGlobals "min" = some none)
    (z_max : PySem.W.nsIn K mainGlobals "max" = some none)
    (z_sum : PySem.W.nsIn K mainGlobals "sum" = some none)
    (z_all : PySem.W.nsIn K mainGlobals "all" = some none)
    (z_any : PySem.W.nsIn K mainGlobals "any" = some none)
    (z_abs : PySem.W.nsIn K mainGlobals "abs" = some none)
    (z_int : PySem.W.nsIn K mainGlobals "int" = some none)
    (z_str : PySem.W.nsIn K mainGlobals "str" = some none)
    (z_dict : PySem.W.nsIn K mainGlobals "dict" = some none)
    (z_isinstance : PySem.W.nsIn K mainGlobals "isinstance" = some none)
    (z_bool : PySem.W.nsIn K mainGlobals "bool" = some none)
    (z_range : PySem.W.nsIn K mainGlobals "range" = some none)
    (z_enumerate : PySem.W.nsIn K mainGlobals "enumerate" = some none)
    (z_zip : PySem.W.nsIn K mainGlobals "zip" = some none)
    (z_set : PySem.W.nsIn K mainGlobals "set" = some none)
    (z_ValueError : PySem.W.nsIn K mainGlobals "ValueError" = some none)
    : CodeK K ∧ (∃ (fa : Addr) (oc : Value) (od : Option Addr) (fd : FuncData) (sl : Array (Option Value)) (c : Addr), PySem.W.nsIn K mainGlobals "all_rows" = some (some (.ref fa)) ∧ K.lookup fa = some ⟨oc, od, .func fd, sl⟩ ∧ fd.code = .ref c) ∧ ∃ fd : FuncData, (∀ (s : Shared) (v : Value), BindsTo s fd ⟨[v], []⟩ [("script", v)]) ∧ ∀ base : Heap, K.In base → base.Ns mainGlobals mg → TabH K mg base → FnOk l.prog w K mg base CX0 80 fa fd ["script"] (spLaw K) := by
  subst q_cd
  have e := hfa.symm.trans (PySem.W.mg_of X G a19)
  cases e
  have O : ModOk K mg names excs mths Pr gl0 := by
    refine ⟨by decide +kernel, fun f => ?_, fun t => ?_, PySem.W.mg_none_of X G z_range, PySem.W.mg_none_of X G z_enumerate, PySem.W.mg_none_of X G z_zip, PySem.W.mg_none_of X G z_set, fun f hf => ?_, fun f h hd => (List.mem_append.mp (show f ∈ names ++ mnames from lookup_mem (l := tabs) h)).resolve_right (fun z => by rw [(show ∀ x ∈ mnames, noDot x = false by decide +kernel) f z] at hd; cases hd), fun f c m hf => (by cases hf), fun c fld hc h1 B hB => (by cases hc), fun x v e => (by cases e), fun f hf => ?_, PySem.W.mg_none_of X G z_ValueError, fun c hc => (by cases hc), fun c hc h0 => (by cases hc)⟩
    · cases f with
      | len => exact PySem.W.mg_none_of X G z_len
      | sorted => exact PySem.W.mg_none_of X G z_sorted
      | tuple => exact PySem.W.mg_none_of X G z_tuple
      | list => exact PySem.W.mg_none_of X G z_list
      | mn => exact PySem.W.mg_none_of X G z_min
      | mx => exact PySem.W.mg_none_of X G z_max
      | sum => exact PySem.W.mg_none_of X G z_sum
      | all => exact PySem.W.mg_none_of X G z_all
      | any => exact PySem.W.mg_none_of X G z_any
      | abs => exact PySem.W.mg_none_of X G z_abs
      | int => exact PySem.W.mg_none_of X G z_int
      | str => exact PySem.W.mg_none_of X G z_str
      | dict => exact PySem.W.mg_none_of X G z_dict
      | isinst => exact PySem.W.mg_none_of X G z_isinstance
    · cases t with
      | tuple => exact PySem.W.mg_none_of X G z_tuple
      | list => exact PySem.W.mg_none_of X G z_list
      | str => exact PySem.W.mg_none_of X G z_str
      | int => exact PySem.W.mg_none_of X G z_int
      | bool => exact PySem.W.mg_none_of X G z_bool
    · rcases List.mem_cons.mp hf with e | hf
      · rw [e]
        exact ⟨_, PySem.W.mg_of X G a1, a1⟩
      rcases List.mem_cons.mp hf with e | hf
      · rw [e]
        exact ⟨_, PySem.W.mg_of X G a2, a2⟩
      rcases List.mem_cons.mp hf with e | hf
      · rw [e]
        exact ⟨_, PySem.W.mg_of X G a3, a3⟩
      rcases List.mem_cons.mp hf with e | hf
      · rw [e]
        exact ⟨_, PySem.W.mg_of X G a4, a4⟩
      rcases List.mem_cons.mp hf with e | hf
      · rw [e]
        exact ⟨_, PySem.W.mg_of X G a5, a5⟩
      rcases List.mem_cons.mp hf with e | hf
      · rw [e]
        exact ⟨_, PySem.W.mg_of X G a6, a6⟩
      rcases List.mem_cons.mp hf with e | hf
      · rw [e]
        exact ⟨_, PySem.W.mg_of X G a7, a7⟩
      rcases List.mem_cons.mp hf with e | hf
      · rw [e]
        exact ⟨_, PySem.W.mg_of X G a8, a8⟩
      rcases List.mem_cons.mp hf with e | hf
      · rw [e]
        exact ⟨_, PySem.W.mg_of X G a9, a9⟩
      rcases List.mem_cons.mp hf with e | hf
      · rw [e]
        exact ⟨_, PySem.W.mg_of X G a10, a10⟩
      rcases List.mem_cons.mp hf with e | hf
      · rw [e]
        exact ⟨_, PySem.W.mg_of X G a11, a11⟩
      rcases List.mem_cons.mp hf with e | hf
      · rw [e]
        exact ⟨_, PySem.W.mg_of X G a12, a12⟩
      rcases List.mem_cons.mp hf with e | hf
      · rw [e]
        exact ⟨_, PySem.W.mg_of X G a13, a13⟩
      rcases List.mem_cons.mp hf with e | hf
      · rw [e]
        exact ⟨_, PySem.W.mg_of X G a14, a14⟩
      rcases List.mem_cons.mp hf with e | hf
      · rw [e]
        exact ⟨_, PySem.W.mg_of X G a15, a15⟩
      rcases List.mem_cons.mp hf with e | hf
      · rw [e]
        exact ⟨_, PySem.W.mg_of X G a16, a16⟩
      rcases List.mem_cons.mp hf with e | hf
      · rw [e]
        exact ⟨_, PySem.W.mg_of X G a17, a17⟩
      rcases List.mem_cons.mp hf with e | hf
      · rw [e]
        exact ⟨_, PySem.W.mg_of X G a18, a18⟩
      rcases List.mem_cons.mp hf with e | hf
      · rw [e]
        exact ⟨_, PySem.W.mg_of X G a19, a19⟩
      · cases hf
    rcases List.mem_cons.mp hf with e | hf
    · rw [e]
      exact ⟨d_tied_pairs, by rfl, ⟨s_tied_pairs, _, _, PySem.W.mg_of X G a1, fun_mk (st := s_tied_pairs) l1 c1 k1, sc_tied_pairs, cb_tied_pairs, (fun_mk (st := s_tied_pairs) l1 c1 k1).binds (ps := d_tied_pairs.ps) fun _ _ _ _ _ _ us hl => match us, hl with | [_], _ => rfl⟩⟩
    rcases List.mem_cons.mp hf with e | hf
    · rw [e]
      exact ⟨d_go_together, by rfl, ⟨s_go_together, _, _, PySem.W.mg_of X G a2, fun_mk (st := s_go_together) l2 c2 k2, sc_go_together, cb_go_together, (fun_mk (st := s_go_together) l2 c2 k2).binds (ps := d_go_together.ps) fun _ _ _ _ _ _ us hl => match us, hl with | [_, _, _, _], _ => rfl⟩⟩
    rcases List.mem_cons.mp hf with e | hf
    · rw [e]
      exact ⟨d_goes_with, by rfl, ⟨s_goes_with, _, _, PySem.W.mg_of X G a3, fun_mk (st := s_goes_with) l3 c3 k3, sc_goes_with, cb_goes_with, (fun_mk (st := s_goes_with) l3 c3 k3).binds (ps := d_goes_with.ps) fun _ _ _ _ _ _ us hl => match us, hl with | [_, _, _, _], _ => rfl⟩⟩
    rcases List.mem_cons.mp hf with e | hf
    · rw [e]
      exact ⟨d_rows_with, by rfl, ⟨s_rows_with, _, _, PySem.W.mg_of X G a4, fun_mk (st := s_rows_with) l4 c4 k4, sc_rows_with, cb_rows_with, (fun_mk (st := s_rows_with) l4 c4 k4).binds (ps := d_rows_with.ps) fun _ _ _ _ _ _ us hl => match us, hl with | [_, _, _, _], _ => rfl⟩⟩
    rcases List.mem_cons.mp hf with e | hf
    · rw [e]
      exact ⟨d_all_rows, by rfl, ⟨s_all_rows, _, _, PySem.W.mg_of X G a5, fun_mk (st := s_all_rows) l5 c5 k5, sc_all_rows, cb_all_rows, (fun_mk (st := s_all_rows) l5 c5 k5).binds (ps := d_all_rows.ps) fun _ _ _ _ _ _ us hl => match us, hl with | [_, _], _ => rfl⟩⟩
    rcases List.mem_cons.mp hf with e | hf
    · rw [e]
      exact ⟨d_next_row, by rfl, ⟨s_next_row, _, _, PySem.W.mg_of X G a6, fun_mk (st := s_next_row) l6 c6 k6, sc_next_row, cb_next_row, (fun_mk (st := s_next_row) l6 c6 k6).binds (ps := d_next_row.ps) fun _ _ _ _ _ _ us hl => match us, hl with | [_, _, _], _ => rfl⟩⟩
    rcases List.mem_cons.mp hf with e | hf
    · rw [e]
      exact ⟨d_pairs_of, by rfl, ⟨s_pairs_of, _, _, PySem.W.mg_of X G a7, fun_mk (st := s_pairs_of) l7 c7 k7, sc_pairs_of, cb_pairs_of, (fun_mk (st := s_pairs_of) l7 c7 k7).binds (ps := d_pairs_of.ps) fun _ _ _ _ _ _ us hl => match us, hl with | [_], _ => rfl⟩⟩
    rcases List.mem_cons.mp hf with e | hf
    · rw [e]
      exact ⟨d_turned_over, by rfl, ⟨s_turned_over, _, _, PySem.W.mg_of X G a8, fun_mk (st := s_turned_over) l8 c8 k8, sc_turned_over, cb_turned_over, (fun_mk (st := s_turned_over) l8 c8 k8).binds (ps := d_turned_over.ps) fun _ _ _ _ _ _ us hl => match us, hl with | [_], _ => rfl⟩⟩
    rcases List.mem_cons.mp hf with e | hf
    · rw [e]
      exact ⟨d_is_of, by rfl, ⟨s_is_of, _, _, PySem.W.mg_of X G a9, fun_mk (st := s_is_of) l9 c9 k9, sc_is_of, cb_is_of, (fun_mk (st := s_is_of) l9 c9 k9).binds (ps := d_is_of.ps) fun _ _ _ _ _ _ us hl => match us, hl with | [_, _, _], _ => rfl⟩⟩
    rcases List.mem_cons.mp hf with e | hf
    · rw [e]
      exact ⟨d_with_one, by rfl, ⟨s_with_one, _, _, PySem.W.mg_of X G a10, fun_mk (st := s_with_one) l10 c10 k10, sc_with_one, cb_with_one, (fun_mk (st := s_with_one) l10 c10 k10).binds (ps := d_with_one.ps) fun _ _ _ _ _ _ us hl => match us, hl with | [_, _], _ => rfl⟩⟩
    rcases List.mem_cons.mp hf with e | hf
    · rw [e]
      exact ⟨d_without_one, by rfl, ⟨s_without_one, _, _, PySem.W.mg_of X G a11, fun_mk (st := s_without_one) l11 c11 k11, sc_without_one, cb_without_one, (fun_mk (st := s_without_one) l11 c11 k11).binds (ps := d_without_one.ps) fun _ _ _ _ _ _ us hl => match us, hl with | [_, _], _ => rfl⟩⟩
    rcases List.mem_cons.mp hf with e | hf
    · rw [e]
      exact ⟨d_is_greatest, by rfl, ⟨s_is_greatest, _, _, PySem.W.mg_of X G a12, fun_mk (st := s_is_greatest) l12 c12 k12, sc_is_greatest, cb_is_greatest, (fun_mk (st := s_is_greatest) l12 c12 k12).binds (ps := d_is_greatest.ps) fun _ _ _ _ _ _ us hl => match us, hl with | [_, _, _], _ => rfl⟩⟩
    rcases List.mem_cons.mp hf with e | hf
    · rw [e]
      exact ⟨d_filled, by rfl, ⟨s_filled, _, _, PySem.W.mg_of X G a13, fun_mk (st := s_filled) l13 c13 k13, sc_filled, cb_filled, (fun_mk (st := s_filled) l13 c13 k13).binds (ps := d_filled.ps) fun _ _ _ _ _ _ us hl => match us, hl with | [_, _, _], _ => rfl⟩⟩
    rcases List.mem_cons.mp hf with e | hf
    · rw [e]
      exact ⟨d_B_law_number, by rfl, ⟨s_B_law_number, _, _, PySem.W.mg_of X G a14, fun_mk (st := s_B_law_number) l14 c14 k14, sc_B_law_number, cb_B_law_number, (fun_mk (st := s_B_law_number) l14 c14 k14).binds (ps := d_B_law_number.ps) fun _ _ _ _ _ _ us hl => match us, hl with | [_, _], _ => rfl⟩⟩
    rcases List.mem_cons.mp hf with e | hf
    · rw [e]
      exact ⟨d_B_law_names, by rfl, ⟨s_B_law_names, _, _, PySem.W.mg_of X G a15, fun_mk (st := s_B_law_names) l15 c15 k15, sc_B_law_names, cb_B_law_names, (fun_mk (st := s_B_law_names) l15 c15 k15).binds (ps := d_B_law_names.ps) fun _ _ _ _ _ _ us hl => match us, hl with | [_, _, _], _ => rfl⟩⟩
    rcases List.mem_cons.mp hf with e | hf
    · rw [e]
      exact ⟨d_B_law_ways, by rfl, ⟨s_B_law_ways, _, _, PySem.W.mg_of X G a16, fun_mk (st := s_B_law_ways) l16 c16 k16, sc_B_law_ways, cb_B_law_ways, (fun_mk (st := s_B_law_ways) l16 c16 k16).binds (ps := d_B_law_ways.ps) fun _ _ _ _ _ _ us hl => match us, hl with | [_, _], _ => rfl⟩⟩
    rcases List.mem_cons.mp hf with e | hf
    · rw [e]
      exact ⟨d_B_law_web, by rfl, ⟨s_B_law_web, _, _, PySem.W.mg_of X G a17, fun_mk (st := s_B_law_web) l17 c17 k17, sc_B_law_web, cb_B_law_web, (fun_mk (st := s_B_law_web) l17 c17 k17).binds (ps := d_B_law_web.ps) fun _ _ _ _ _ _ us hl => match us, hl with | [_, _, _], _ => rfl⟩⟩
    rcases List.mem_cons.mp hf with e | hf
    · rw [e]
      exact ⟨d_B_law_chain, by rfl, ⟨s_B_law_chain, _, _, PySem.W.mg_of X G a18, fun_mk (st := s_B_law_chain) l18 c18 k18, sc_B_law_chain, cb_B_law_chain, (fun_mk (st := s_B_law_chain) l18 c18 k18).binds (ps := d_B_law_chain.ps) fun _ _ _ _ _ _ us hl => match us, hl with | [_, _, _], _ => rfl⟩⟩
    rcases List.mem_cons.mp hf with e | hf
    · rw [e]
      exact ⟨d_law, by rfl, ⟨s_law, _, _, PySem.W.mg_of X G a19, fun_mk (st := s_law) l19 c19 k19, sc_law, cb_law, (fun_mk (st := s_law) l19 c19 k19).binds (ps := d_law.ps) fun _ _ _ _ _ _ us hl => match us, hl with | [_], _ => rfl⟩⟩
    · cases hf
  refine ⟨fun fa oc od fd sl c h1 h2 h3 => ?_, ⟨f5, _, _, _, _, cAR, a5, l5, rfl⟩, ?_⟩
  · rw [a5] at h1
    cases h1
    rw [l5] at h2
    cases h2
    cases h3
    exact ⟨_, _, _, _, _, q_lc, q_v, q_p⟩
  · exact ⟨PySem.W.fnOf "law" "law" (defArgs s_law) (defBody s_law) (defScope s_law) .none kV19 dc19 pm19 an19 cd19 ct19, fun s v => .of_eq rfl, fun base _ _ HT =>
    FnOk.imp (fn_law (k := 39) O HT p_law (by decide +kernel) (PySem.W.mg_of X G a19) (fun_mk (st := s_law) l19 c19 k19) sc_law cb_law) fun vs H Q E z => law_imp law_gives vs H Q E z⟩
end Lk
open PySem PySem.W PyProof.Rows in
set_option maxRecDepth 100000 in
set_option maxHeartbeats 0 in
theorem PySem.Challenge.cw_eachgreatest_k15_whole_rows_one_behind_a_holds : PySem.Challenge.rw_eachgreatest_k15_whole_rows_one_behind_a.Holds := by
  w_on; o_law; k_head; (case hw => w_witness2)
  k_fill
  refine Sy.walk_lam (l := PySem.Challenge.rw_eachgreatest_k15_whole_rows_one_behind_a) rfl rfl (by decide +kernel) (fun w h Y => PySem.W.km_in_of Y) ?F
  case F =>
    intro w mg fa h KX G hmg
    refine' Lk.all_mk KX G hmg ?a1 ?l1 ?c1 ?k1 ?a2 ?l2 ?c2 ?k2 ?a3 ?l3 ?c3 ?k3 ?a4 ?l4 ?c4 ?k4 ?a5 ?l5 ?c5 ?k5 ?a6 ?l6 ?c6 ?k6 ?a7 ?l7 ?c7 ?k7 ?a8 ?l8 ?c8 ?k8 ?a9 ?l9 ?c9 ?k9 ?a10 ?l10 ?c10 ?k10 ?a11 ?l11 ?c11 ?k11 ?a12 ?l12 ?c12 ?k12 ?a13 ?l13 ?c13 ?k13 ?a14 ?l14 ?c14 ?k14 ?a15 ?l15 ?c15 ?k15 ?a16 ?l16 ?c16 ?k16 ?a17 ?l17 ?c17 ?k17 ?a18 ?l18 ?c18 ?k18 ?a19 ?l19 ?c19 ?k19 ?q_cd ?q_lc ?q_v ?q_p ?z_len ?z_sorted ?z_tuple ?z_list ?z_min ?z_max ?z_sum ?z_all ?z_any ?z_abs ?z_int ?z_str ?z_dict ?z_isinstance ?z_bool ?z_range ?z_enumerate ?z_zip ?z_set ?z_ValueError
    (case a1 => k_is)
    (case l1 => k_is)
    (case c1 => k_is)
    (case k1 => k_is)
    (case a2 => k_is)
    (case l2 => k_is)
    (case c2 => k_is)
    (case k2 => k_is)
    (case a3 => k_is)
    (case l3 => k_is)
    (case c3 => k_is)
    (case k3 => k_is)
    (case a4 => k_is)
    (case l4 => k_is)
    (case c4 => k_is)
    (case k4 => k_is)
    (case a5 => k_is)
    (case l5 => k_is)
    (case c5 => k_is)
    (case k5 => k_is)
    (case a6 => k_is)
    (case l6 => k_is)
    (case c6 => k_is)
    (case k6 => k_is)
    (case a7 => k_is)
    (case l7 => k_is)
    (case c7 => k_is)
    (case k7 => k_is)
    (case a8 => k_is)
    (case l8 => k_is)
    (case c8 => k_is)
    (case k8 => k_is)
    (case a9 => k_is)
    (case l9 => k_is)
    (case c9 => k_is)
    (case k9 => k_is)
    (case a10 => k_is)
    (case l10 => k_is)
    (case c10 => k_is)
    (case k10 => k_is)
    (case a11 => k_is)
    (case l11 => k_is)
    (case c11 => k_is)
    (case k11 => k_is)
    (case a12 => k_is)
    (case l12 => k_is)
    (case c12 => k_is)
    (case k12 => k_is)
    (case a13 => k_is)
    (case l13 => k_is)
    (case c13 => k_is)
    (case k13 => k_is)
    (case a14 => k_is)
    (case l14 => k_is)
    (case c14 => k_is)
    (case k14 => k_is)
    (case a15 => k_is)
    (case l15 => k_is)
    (case c15 => k_is)
    (case k15 => k_is)
    (case a16 => k_is)
    (case l16 => k_is)
    (case c16 => k_is)
    (case k16 => k_is)
    (case a17 => k_is)
    (case l17 => k_is)
    (case c17 => k_is)
    (case k17 => k_is)
    (case a18 => k_is)
    (case l18 => k_is)
    (case c18 => k_is)
    (case k18 => k_is)
    (case a19 => k_is)
    (case l19 => k_is)
    (case c19 => k_is)
    (case k19 => k_is)
    (case q_cd => first | k_is | rfl)
    (case q_lc => k_is)
    (case q_v => first | k_is | rfl)
    (case q_p => first | k_is | rfl)
    (case z_len => k_is)
    (case z_sorted => k_is)
    (case z_tuple => k_is)
    (case z_list => k_is)
    (case z_min => k_is)
    (case z_max => k_is)
    (case z_sum => k_is)
    (case z_all => k_is)
    (case z_any => k_is)
    (case z_abs => k_is)
    (case z_int => k_is)
    (case z_str => k_is)
    (case z_dict => k_is)
    (case z_isinstance => k_is)
    (case z_bool => k_is)
    (case z_range => k_is)
    (case z_enumerate => k_is)
    (case z_zip => k_is)
    (case z_set => k_is)
    (case z_ValueError => k_is)
#print axioms PySem.Challenge.cw_eachgreatest_k15_whole_rows_one_behind_a_holds
