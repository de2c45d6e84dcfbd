import PyProof.Rows.All
import Wide.All
import OpenK.AllK
import Wide.FinOn
import HandS.ForMost
import HandS.IsInst
import HandS.Wide
import HandS.TupAny
import HandS.TupLe
import HandS.Exc
import HandS.WordsExc
import HandS.Lambda
import HandS.TupMul
import HandS.SortInts
import HandS.RaiseMore
import HandS.Deep
import PyProof.ReprRoads
import HandS.Style
import PyProof.ReprLen
import PyProof.Rows.StrIntSpec
import HandS.Comp
import HandS.Strs
import HandS.SetFor
import HandS.WideBits
import HandS.Small
import HandS.Dict
import HandS.Iter
import HandS.Property
import HandS.ClsMeth
import HandS.MakeKw
import HandS.NamedTupGet
import HandS.SlotsOwn
import HandS.More
import KE.KTupSum
import PyProof.P3In
import HandS.SortOrd
import HandS.List
import HandS.TupSets
import HandS.Conv
import HandS.DictComp
import KE.KRevSl
import PyProof.EqAt
import PyProof.TupleKey
import PyProof.ReprBulk
import HandS.ExcInit
import HandS.TryMany
import HandS.ExcField
import HandS.ExcIs
import KE.KExcInit
import HandS.HotCalls
import KE.KExcIs
import HandS.Text
import KE.KCallOwn
import PyProof.InstNe
import HandS.DictSub
import HandS.Records
import PyProof.EqKinds
import PyProof.Rows.Range3
import HandS.Star
import HandS.Zip
import PySem.Challenge.RW_onesums_k77_whole_rows_of_figures_judged
set_option Elab.async false
set_option linter.all false
set_option maxRecDepth 100000
/-! DL0: plain data over HandS: values D, worlds, states, lifted readings. -/
namespace DL
open PySem PySem.Spec L2

/-- plain data; rls: a list that is only read; jar: a list of three ints that anybody may change -/
inductive D where
  | non | bl (b : Bool) | int (i : Int) | str (s : Str)
  | tup (ds : List D) | lst (ds : List D) | rls (ds : List D)
  | dic (kvs : List (Key × D))
  | ins (C : Str) (fs : List (Str × D))
  | exc (C : Str) (fs : List (Str × D))
  | cell (i : Nat) | cls (C : Str)
  | jar | v (x : V)
  deriving Inhabited

/-- what a slot holds: data; or a list, a dict, an instance that this slot alone holds -/
inductive S where
  | d (x : D) | own (ds : List D) | odic (kvs : List (Key × D)) | oins (a : Addr) (C : Str) (fs : List (Str × D)) | ldic (kvs : List (Key × D))
  deriving Inhabited
/-- an object that changes: its class, its attributes -/
structure Cell where
  cls : Str
  fs : List (Str × D)
  deriving Inhabited
abbrev Mem := List Cell
def S.isOwn : S → Bool
  | .d _ => false
  | .ldic _ => false
  | _ => true
def S.frz : S → D
  | .own ds => .lst ds
  | .odic ds => .dic ds
  | .ldic ds => .dic ds
  | .oins _ C fs => .ins C fs
  | .d x => x

/-- F: what never changes any more; J: the jars and (T) the tables of code objects; C: the cells; g: the module's names -/
structure Wd where
  F : Addr → Prop
  J : Addr → Prop
  C : List Addr
  g : Str → Option Value
  T : Addr → Str → Prop
def Wd.add (W : Wd) (p : Addr) : Wd := ⟨fun a => W.F a ∨ a = p, W.J, W.C, W.g, W.T⟩
def Wd.addJ (W : Wd) (p : Addr) : Wd := ⟨W.F, fun a => W.J a ∨ a = p, W.C, W.g, W.T⟩
def Wd.addC (W : Wd) (p : Addr) : Wd := ⟨W.F, W.J, W.C ++ [p], W.g, W.T⟩

def SeqT (K : PySem.W.Frag) (W : Wd) (H : Hp) (a : Addr) (xs : List V) : Prop :=
  (W.F a ∧ Rd H a (.tup xs)) ∨
    ∃ (o : Obj) (its : Array Value) (n : Nat), K.lookup a = some o ∧ o.cls = .type "tuple" ∧ o.data = .seq its n ∧ its.size ≤ sizeLine ∧ Vals xs its.toList
def SeqL (K : PySem.W.Frag) (W : Wd) (H : Hp) (a : Addr) (xs : List V) : Prop :=
  (W.F a ∧ Rd H a (.lst xs)) ∨
    ∃ (o : Obj) (its : Array Value) (n : Nat), K.lookup a = some o ∧ o.cls = .type "list" ∧ o.dict = none ∧ o.data = .seq its n ∧ its.size ≤ sizeLine ∧ Vals xs its.toList
theorem SeqT.sq {K : PySem.W.Frag} {W : Wd} {H : Hp} {a : Addr} {xs : List V} (h : SeqT K W H a xs) : SqT K H a xs :=
  h.elim (fun q => .inl q.2) .inr
theorem SeqL.sq {K : PySem.W.Frag} {W : Wd} {H : Hp} {a : Addr} {xs : List V} (h : SeqL K W H a xs) : SqL K H a xs :=
  h.elim (fun q => .inl q.2) .inr

/-- an exception's object -/
def ExO (cls : Value) (d : Option Addr) (a : Addr) : HO := .ext fun h => ∃ (oe : Obj) (fs : Array Value), h.get? a = some oe ∧ Zc cls d oe ∧ oe.data = .fields fs
structure DicAt (H : Hp) (a : Addr) (vs : List (Key × V)) : Prop where
  rd : Rd H a (.dK vs)
mutual
/-- the value x denotes d -/
inductive Dn (K : PySem.W.Frag) (W : Wd) (H : Hp) : D → V → Prop
  | non : Dn K W H .non .non
  | bl (b : Bool) : Dn K W H (.bl b) (.bl b)
  | int (i : Int) : Dn K W H (.int i) (.int i)
  | str (s : Str) : Dn K W H (.str s) (.str s)
  | tup {a : Addr} {ds : List D} {vs : List V} : SeqT K W H a vs → DnA K W H ds vs → Dn K W H (.tup ds) (.ref a)
  | lst {a : Addr} {ds : List D} {vs : List V} : W.F a → H a = some (.lst vs) → DnA K W H ds vs → Dn K W H (.lst ds) (.ref a)
  | rls {a : Addr} {ds : List D} {vs : List V} : SeqL K W H a vs → DnA K W H ds vs → Dn K W H (.rls ds) (.ref a)
  | dic {a : Addr} {ds : List (Key × D)} {vs : List (Key × V)} : W.F a → DicAt H a vs → DnK K W H ds vs → Dn K W H (.dic ds) (.ref a)
  | ins {a Ca dx : Addr} {C : Str} {ds : List (Str × D)} {vs : List (Str × V)} : W.F a → W.g C = some (.ref Ca) → H a = some (.ins Ca dx vs) → DnF K W H ds vs → Dn K W H (.ins C ds) (.ref a)
  | cell {a : Addr} {i : Nat} : W.C[i]? = some a → Dn K W H (.cell i) (.ref a)
  | cls {C : Str} {a : Addr} : W.g C = some (.ref a) → Dn K W H (.cls C) (.ref a)
  | exc0 {a Ca : Addr} {C : Str} : W.F a → W.g C = some (.ref Ca) → H a = some (ExO (.ref Ca) none a) → Dn K W H (.exc C []) (.ref a)
  | exc {a dx Ca : Addr} {C : Str} {ds : List (Str × D)} {vs : List (Str × V)} : W.F a → W.F dx → W.g C = some (.ref Ca) → H a = some (ExO (.ref Ca) (some dx) a) → H dx = some (.xd vs) → DnF K W H ds vs → Dn K W H (.exc C ds) (.ref a)
  | jar {a : Addr} : W.J a → (∀ q, ¬ W.T a q) → Dn K W H .jar (.ref a)
  | v (x : V) : Dn K W H (.v x) x
inductive DnA (K : PySem.W.Frag) (W : Wd) (H : Hp) : List D → List V → Prop
  | nil : DnA K W H [] []
  | cons {d : D} {ds : List D} {x : V} {xs : List V} : Dn K W H d x → DnA K W H ds xs → DnA K W H (d :: ds) (x :: xs)
inductive DnK (K : PySem.W.Frag) (W : Wd) (H : Hp) : List (Key × D) → List (Key × V) → Prop
  | nil : DnK K W H [] []
  | cons {k : Key} {d : D} {ds : List (Key × D)} {x : V} {xs : List (Key × V)} : Dn K W H d x → DnK K W H ds xs → DnK K W H ((k, d) :: ds) ((k, x) :: xs)
inductive DnF (K : PySem.W.Frag) (W : Wd) (H : Hp) : List (Str × D) → List (Str × V) → Prop
  | nil : DnF K W H [] []
  | cons {k : Str} {d : D} {ds : List (Str × D)} {x : V} {xs : List (Str × V)} : Dn K W H d x → DnF K W H ds xs → DnF K W H ((k, d) :: ds) ((k, x) :: xs)
end

structure Le (W : Wd) (H : Hp) (W' : Wd) (H' : Hp) : Prop where
  F : ∀ a, W.F a → W'.F a
  J : ∀ a, W.J a → W'.J a
  k : ∀ a, W.F a → H' a = H a
  C : ∀ (i : Nat) (a : Addr), W.C[i]? = some a → W'.C[i]? = some a
  g : W'.g = W.g
  T : W'.T = W.T
/-- the same world -/
theorem Le.same {W : Wd} {H H' : Hp} (k : ∀ a, W.F a → H' a = H a) : Le W H W H' := ⟨fun _ h => h, fun _ h => h, k, fun _ _ h => h, rfl, rfl⟩
theorem Le.add {W : Wd} {H H' : Hp} {p : Addr} (k : ∀ a, W.F a → H' a = H a) : Le W H (W.add p) H' := ⟨fun _ h => .inl h, fun _ h => h, k, fun _ _ h => h, rfl, rfl⟩
theorem Le.refl (W : Wd) (H : Hp) : Le W H W H := .same fun _ _ => rfl
theorem Le.trans {W1 W2 W3 : Wd} {H1 H2 H3 : Hp} (a : Le W1 H1 W2 H2) (b : Le W2 H2 W3 H3) : Le W1 H1 W3 H3 :=
  ⟨fun x h => b.F x (a.F x h), fun x h => b.J x (a.J x h), fun x h => (b.k x (a.F x h)).trans (a.k x h), fun i x h => b.C i x (a.C i x h), b.g.trans a.g, b.T.trans a.T⟩

section
variable {K : PySem.W.Frag} {W W' : Wd} {H H' : Hp}
theorem Rd.cong {a : Addr} {u : HO} (e : H' a = H a) (h : Rd H a u) : Rd H' a u := by
  unfold Rd at *
  rw [e]
  exact h
theorem SeqT.le (l : Le W H W' H') {a : Addr} {xs : List V} (h : SeqT K W H a xs) : SeqT K W' H' a xs :=
  h.elim (fun q => .inl ⟨l.F a q.1, Rd.cong (l.k a q.1) q.2⟩) .inr
theorem SeqL.le (l : Le W H W' H') {a : Addr} {xs : List V} (h : SeqL K W H a xs) : SeqL K W' H' a xs :=
  h.elim (fun q => .inl ⟨l.F a q.1, Rd.cong (l.k a q.1) q.2⟩) .inr
theorem DicAt.le (l : Le W H W' H') {a : Addr} {xs : List (Key × V)} (h : DicAt H a xs) (f : W.F a) : DicAt H' a xs := ⟨Rd.cong (l.k a f) h.rd⟩
mutual
theorem Dn.le (l : Le W H W' H') : ∀ {d : D} {x : V}, Dn K W H d x → Dn K W' H' d x
  | _, _, .non => .non
  | _, _, .bl b => .bl b
  | _, _, .int b => .int b
  | _, _, .str b => .str b
  | _, _, .tup h1 h2 => .tup (h1.le l) (DnA.le l h2)
  | _, _, .lst h1 h2 h3 => .lst (l.F _ h1) ((l.k _ h1).trans h2) (DnA.le l h3)
  | _, _, .rls h1 h2 => .rls (h1.le l) (DnA.le l h2)
  | _, _, .dic h1 h2 h3 => .dic (l.F _ h1) (h2.le l h1) (DnK.le l h3)
  | _, _, .ins h1 h0 h2 h3 => .ins (l.F _ h1) (by rw [l.g]; exact h0) ((l.k _ h1).trans h2) (DnF.le l h3)
  | _, _, .cell h => .cell (l.C _ _ h)
  | _, _, .cls h => .cls (by rw [l.g]; exact h)
  | _, _, .exc0 h1 h0 h2 => .exc0 (l.F _ h1) (by rw [l.g]; exact h0) ((l.k _ h1).trans h2)
  | _, _, .exc h1 h3 h0 h2 h4 h5 => .exc (l.F _ h1) (l.F _ h3) (by rw [l.g]; exact h0) ((l.k _ h1).trans h2) ((l.k _ h3).trans h4) (DnF.le l h5)
  | _, _, .jar h n => .jar (l.J _ h) (by rw [l.T]; exact n)
  | _, _, .v x => .v x
theorem DnA.le (l : Le W H W' H') : ∀ {d : List D} {x : List V}, DnA K W H d x → DnA K W' H' d x
  | _, _, .nil => .nil
  | _, _, .cons h1 h2 => .cons (Dn.le l h1) (DnA.le l h2)
theorem DnK.le (l : Le W H W' H') : ∀ {d : List (Key × D)} {x : List (Key × V)}, DnK K W H d x → DnK K W' H' d x
  | _, _, .nil => .nil
  | _, _, .cons h1 h2 => .cons (Dn.le l h1) (DnK.le l h2)
theorem DnF.le (l : Le W H W' H') : ∀ {d : List (Str × D)} {x : List (Str × V)}, DnF K W H d x → DnF K W' H' d x
  | _, _, .nil => .nil
  | _, _, .cons h1 h2 => .cons (Dn.le l h1) (DnF.le l h2)
end
theorem DnA.length : ∀ {ds : List D} {xs : List V}, DnA K W H ds xs → ds.length = xs.length
  | _, _, .nil => rfl
  | _, _, .cons _ h => congrArg (· + 1) h.length
theorem DnA.get : ∀ {ds : List D} {xs : List V} {i : Nat} {d : D}, DnA K W H ds xs → ds[i]? = some d → ∃ x, xs[i]? = some x ∧ Dn K W H d x
  | _, _, 0, _, .cons h _, e => ⟨_, rfl, by cases e; exact h⟩
  | _, _, i + 1, _, .cons _ h, e => by
    obtain ⟨x, e1, e2⟩ := h.get (i := i) (by simpa using e)
    exact ⟨x, by simpa using e1, e2⟩
theorem DnA.append : ∀ {ds es : List D} {xs ys : List V}, DnA K W H ds xs → DnA K W H es ys → DnA K W H (ds ++ es) (xs ++ ys)
  | _, _, _, _, .nil, h => h
  | _, _, _, _, .cons h1 h2, h => .cons h1 (h2.append h)
theorem DnA.take : ∀ (n : Nat) {ds : List D} {xs : List V}, DnA K W H ds xs → DnA K W H (ds.take n) (xs.take n)
  | 0, _, _, _ => by simpa using DnA.nil
  | _ + 1, _, _, .nil => by simpa using DnA.nil
  | n + 1, _, _, .cons h1 h2 => .cons h1 (h2.take n)
theorem DnA.drop : ∀ (n : Nat) {ds : List D} {xs : List V}, DnA K W H ds xs → DnA K W H (ds.drop n) (xs.drop n)
  | 0, _, _, h => h
  | _ + 1, _, _, .nil => by simpa using DnA.nil
  | n + 1, _, _, .cons h1 h2 => h2.drop n
theorem DnA.set {d : D} {x : V} (h : Dn K W H d x) : ∀ {ds : List D} {xs : List V} (i : Nat), DnA K W H ds xs → DnA K W H (ds.set i d) (xs.set i x)
  | _, _, _, .nil => by simpa using DnA.nil
  | _, _, 0, .cons _ h2 => .cons h h2
  | _, _, i + 1, .cons h1 h2 => .cons h1 (h2.set h i)
theorem DnA.reverse {ds : List D} {xs : List V} (h : DnA K W H ds xs) : DnA K W H ds.reverse xs.reverse := by
  induction ds generalizing xs with
  | nil => cases h; exact .nil
  | cons d ds ih =>
    cases h with
    | cons h1 h2 =>
      rw [List.reverse_cons, List.reverse_cons]
      exact (ih h2).append (.cons h1 .nil)
theorem DnA.one {d : D} {xs : List V} (h : DnA K W H [d] xs) : ∃ x, xs = [x] ∧ Dn K W H d x := by
  cases h with
  | cons h1 h2 => cases h2; exact ⟨_, rfl, h1⟩
theorem DnA.map_int : ∀ {ns : List Int} {xs : List V}, DnA K W H (ns.map .int) xs → xs = ns.map .int
  | [], _, .nil => rfl
  | n :: ns, _, .cons h1 h2 => by cases h1; rw [h2.map_int]; rfl
theorem DnA.of_int : ∀ (ns : List Int), DnA K W H (ns.map .int) (ns.map .int)
  | [] => .nil
  | n :: ns => .cons (.int n) (DnA.of_int ns)
theorem DnA.map_bl : ∀ {ns : List Bool} {xs : List V}, DnA K W H (ns.map .bl) xs → xs = ns.map .bl
  | [], _, .nil => rfl
  | n :: ns, _, .cons h1 h2 => by cases h1; rw [h2.map_bl]; rfl
end

/-- the table of code objects at P: what it tells are code objects of the name q -/
def TabW (W : Wd) (H : Hp) (P : Addr) (q : Str) : Prop := ∃ ps : Array Value, H P = some (.tbl ps) ∧ TriplesOk ps.toList ∧ ∀ (pos : Pos) (cv : Value), codeAmong pos ps.toList = some cv → ∃ c, cv = .ref c ∧ W.F c ∧ H c = some (LamX.CodeO c q)
theorem TabW.le {W W' : Wd} {H H' : Hp} {P : Addr} {q : Str} (h : TabW W H P q) (l : Le W H W' H') (e : H' P = H P) : TabW W' H' P q := by
  obtain ⟨ps, h1, h2, h3⟩ := h
  refine ⟨ps, e.trans h1, h2, fun pos cv hc => ?_⟩
  obtain ⟨c, e1, e2, e3⟩ := h3 pos cv hc
  exact ⟨c, e1, l.F c e2, (l.k c e2).trans e3⟩
def JarAt (W : Wd) (H : Hp) (a : Addr) : Prop := ((∃ q, W.T a q) ∧ ∀ q, W.T a q → TabW W H a q) ∨ ((∀ q, ¬ W.T a q) ∧ ∃ x y z : Int, H a = some (.lst [.int x, .int y, .int z]) ∧ -(2 ^ 40) < y ∧ y < 2 ^ 40)
theorem JarAt.some {W : Wd} {H : Hp} {a : Addr} (h : JarAt W H a) : ∃ o, H a = some o := h.elim (fun ⟨⟨q, hq⟩, z⟩ => let ⟨_, e, _⟩ := z q hq; ⟨_, e⟩) fun ⟨_, _, _, _, e, _⟩ => ⟨_, e⟩
theorem JarAt.le {W W' : Wd} {H H' : Hp} {a : Addr} (h : JarAt W H a) (l : Le W H W' H') (e : H' a = H a) : JarAt W' H' a := by
  unfold JarAt at *
  rw [e, l.T]
  exact h.imp (fun q => ⟨q.1, fun s z => (q.2 s z).le l e⟩) id
theorem JarAt.jar {W : Wd} {H : Hp} {a : Addr} (h : JarAt W H a) (n : ∀ q, ¬ W.T a q) : ∃ x y z : Int, H a = .some (.lst [.int x, .int y, .int z]) ∧ -(2 ^ 40) < y ∧ y < 2 ^ 40 := h.elim (fun q => let ⟨s, z⟩ := q.1; absurd z (n s)) (·.2)
theorem JarAt.tab {W : Wd} {H : Hp} {a : Addr} {q : Str} (h : JarAt W H a) (n : W.T a q) : TabW W H a q := h.elim (fun z => z.2 q n) fun z => absurd n (z.1 q)
structure Al (W : Wd) (H : Hp) : Prop where
  f : ∀ a, W.F a → ∃ o, H a = some o
  j : ∀ a, W.J a → JarAt W H a
  d : ∀ a, W.J a → ¬ W.F a
  c : ∀ a ∈ W.C, ¬ W.F a ∧ ¬ W.J a ∧ ∃ o, H a = some o
  nd : W.C.Nodup
  t : ∀ P q, W.T P q → W.J P
/-- the defs of the laws that make lambdas -/
def lamDefs : List Str := ["_law_right", "_law_alone", "_law_values_right", "_law_case_right", "_law_act", "_law_deed_right", "_law_great_right", "_law_trial_right", "_law_trial_pages", "_law_questions_right", "_law_said", "_law_parts_right"]
/-- their tables of code objects -/
def lamTabs (K : PySem.W.Frag) : List (Addr × Str) := lamDefs.filterMap fun x => (PySem.W.tabIn K x).map fun p => (p.2, x ++ ".<locals>." ++ "<lambda>")
def nodupB : List Addr → Bool
  | [] => true
  | a :: l => !(l.contains a) && nodupB l
/-- the tables at the start -/
def tabsB (K : PySem.W.Frag) : Bool := (lamDefs.all fun x => match PySem.W.tabIn K x with
  | none => true
  | some (_, P) => (K.lookup P).isNone) && nodupB ((lamTabs K).map (·.1))
theorem nodupB_ok : ∀ {l : List (Addr × Str)}, nodupB (l.map (·.1)) = true → ∀ P q q', (P, q) ∈ l → (P, q') ∈ l → q' = q
  | [], _, _, _, _, h, _ => by cases h
  | p :: l, h, P, q, q', h1, h2 => by
    simp only [List.map_cons, nodupB, Bool.and_eq_true, Bool.not_eq_true', List.contains_eq_mem, decide_eq_false_iff_not] at h
    rcases List.mem_cons.mp h1 with e1 | e1 <;> rcases List.mem_cons.mp h2 with e2 | e2
    · rw [← e2] at e1; cases e1; rfl
    · exact absurd (List.mem_map.mpr ⟨_, e2, by rw [← e1]⟩) h.1
    · exact absurd (List.mem_map.mpr ⟨_, e1, by rw [← e2]⟩) h.1
    · exact nodupB_ok h.2 P q q' e1 e2
/-- what a cell holds: an instance; or, if its class is no name of the module, a dict -/
def CellAt (K : PySem.W.Frag) (W : Wd) (H : Hp) (c : Cell) (a : Addr) : Prop :=
  (∃ Ca dx vs, W.g c.cls = some (.ref Ca) ∧ H a = some (.ins Ca dx vs) ∧ DnF K W H c.fs vs) ∨
    (W.g c.cls = none ∧ ∃ kvs vs, c.fs = [(("" : Str), D.dic kvs)] ∧ H a = some (.dK vs) ∧ DnK K W H kvs vs)
theorem CellAt.le {K : PySem.W.Frag} {W W' : Wd} {H H' : Hp} {c : Cell} {a : Addr} (h : CellAt K W H c a) (l : Le W H W' H') (e : H' a = H a) : CellAt K W' H' c a :=
  h.imp (fun ⟨Ca, dx, vs, h1, h2, h3⟩ => ⟨Ca, dx, vs, by rw [l.g]; exact h1, e.trans h2, h3.le l⟩) fun ⟨h0, kvs, vs, h1, h2, h3⟩ => ⟨by rw [l.g]; exact h0, kvs, vs, h1, e.trans h2, h3.le l⟩
theorem CellAt.ins {K : PySem.W.Frag} {W : Wd} {H : Hp} {c : Cell} {a Cz : Addr} (h : CellAt K W H c a) (e : W.g c.cls = some (.ref Cz)) : ∃ Ca dx vs, W.g c.cls = some (.ref Ca) ∧ H a = some (.ins Ca dx vs) ∧ DnF K W H c.fs vs :=
  h.elim id fun ⟨h0, _⟩ => by rw [e] at h0; cases h0
/-- what the cells hold -/
structure Cells (K : PySem.W.Frag) (W : Wd) (μ : Mem) (H : Hp) : Prop where
  len : μ.length = W.C.length
  tab : ∀ P q, (P, q) ∈ lamTabs K → W.T P q ∧ ∀ q', W.T P q' → q' = q
  at_ : ∀ (i : Nat) (c : Cell) (a : Addr), μ[i]? = some c → W.C[i]? = some a → CellAt K W H c a
theorem Cells.keep {K : PySem.W.Frag} {W W' : Wd} {μ : Mem} {H H' : Hp} (c : Cells K W μ H) (l : Le W H W' H') (e : W'.C = W.C) (k : ∀ a ∈ W.C, H' a = H a) : Cells K W' μ H' :=
  ⟨c.len.trans (by rw [e]), fun P q h => by rw [l.T]; exact c.tab P q h, fun i cl a h1 h2 => by
    rw [e] at h2
    exact (c.at_ i cl a h1 h2).le l (k a (List.mem_of_getElem? h2))⟩

/-- what an evaluation may do: freeze new things and own ones (ow), change own ones and jars -/
structure Step (ow : Addr → Prop) (W : Wd) (H : Hp) (W' : Wd) (H' : Hp) : Prop where
  le : Le W H W' H'
  nF : ∀ a, W'.F a → W.F a ∨ H a = none ∨ ow a
  nJ : ∀ a, W'.J a → W.J a ∨ H a = none
  nC : ∀ a, a ∈ W'.C → a ∈ W.C ∨ H a = none
  st : ∀ a o, H a = some o → ¬ W.J a → ¬ a ∈ W.C → ¬ ow a → H' a = some o
  up : ∀ a, H' a = none → H a = none
abbrev no1 : Addr → Prop := fun _ => False
theorem Step.refl (ow : Addr → Prop) (W : Wd) (H : Hp) : Step ow W H W H := ⟨.refl _ _, fun _ h => .inl h, fun _ h => .inl h, fun _ h => .inl h, fun _ _ h _ _ _ => h, fun _ h => h⟩
theorem Step.trans {ow ow1 : Addr → Prop} {W1 W2 W3 : Wd} {H1 H2 H3 : Hp} (a : Step ow W1 H1 W2 H2) (b : Step ow1 W2 H2 W3 H3) (hs : ∀ x, ow1 x → ow x ∨ H1 x = none) : Step ow W1 H1 W3 H3 where
  le := a.le.trans b.le
  nF := fun x h => by
    rcases b.nF x h with q | q | q
    · exact a.nF x q
    · exact .inr (.inl (a.up x q))
    · rcases hs x q with z | z
      · exact .inr (.inr z)
      · exact .inr (.inl z)
  nJ := fun x h => by
    rcases b.nJ x h with q | q
    · exact a.nJ x q
    · exact .inr (a.up x q)
  nC := fun x h => by
    rcases b.nC x h with q | q
    · exact a.nC x q
    · exact .inr (a.up x q)
  st := fun x o h nj nc no => by
    refine b.st x o (a.st x o h nj nc no) (fun q => ?_) (fun q => ?_) (fun q => ?_)
    · rcases a.nJ x q with z | z
      · exact nj z
      · rw [h] at z; cases z
    · rcases a.nC x q with z | z
      · exact nc z
      · rw [h] at z; cases z
    · rcases hs x q with z | z
      · exact no z
      · rw [h] at z; cases z
  up := fun x h => a.up x (b.up x h)

theorem Step.mono {ow ow' : Addr → Prop} {W W' : Wd} {H H' : Hp} (s : Step ow W H W' H') (h : ∀ x, ow x → ow' x) : Step ow' W H W' H' where
  le := s.le
  nF := fun a q => (s.nF a q).imp id (Or.imp id (h a))
  nJ := s.nJ
  nC := s.nC
  st := fun a o e nj nc no => s.st a o e nj nc fun z => no (h a z)
  up := s.up
/-- a value that may be own -/
def Rs (K : PySem.W.Frag) (W : Wd) (H : Hp) : S → V → Prop
  | .own ds, x => ∃ p vs, x = .ref p ∧ H p = some (.lst vs) ∧ DnA K W H ds vs
  | .odic ds, x => ∃ p vs, x = .ref p ∧ H p = some (.dK vs) ∧ DnK K W H ds vs
  | .ldic ds, x => ∃ p vs od, x = .ref p ∧ W.F p ∧ H p = some (.frz od (.dK vs)) ∧ DnK K W H ds vs
  | .oins p C ds, x => ∃ Ca dx vs, x = .ref p ∧ W.g C = some (.ref Ca) ∧ H p = some (.ins Ca dx vs) ∧ DnF K W H ds vs
  | .d d, x => Dn K W H d x
theorem Rs.ow {K : PySem.W.Frag} {W : Wd} {H : Hp} {d : S} {x : V} (h : Rs K W H d x) (n : d.isOwn = true) : ∃ p o, x = .ref p ∧ H p = some o := by
  cases d <;> first | (obtain ⟨p, vs, h1, h2, _⟩ := h; exact ⟨p, _, h1, h2⟩) | (obtain ⟨_, _, vs, h1, _, h2, _⟩ := h; exact ⟨_, _, h1, h2⟩) | cases n
theorem Rs.le {K : PySem.W.Frag} {W W' : Wd} {H H' : Hp} (l : Le W H W' H') {d : S} {x : V} (h : Rs K W H d x) (ho : d.isOwn = true → ∀ p, x = .ref p → H' p = H p) : Rs K W' H' d x := by
  cases d with
  | own ds => obtain ⟨p, vs, h1, h2, h3⟩ := h; exact ⟨p, vs, h1, (ho rfl p h1).trans h2, h3.le l⟩
  | odic ds => obtain ⟨p, vs, h1, h2, h3⟩ := h; exact ⟨p, vs, h1, (ho rfl p h1).trans h2, h3.le l⟩
  | ldic ds => obtain ⟨p, vs, od, h1, h0, h2, h3⟩ := h; exact ⟨p, vs, od, h1, l.F _ h0, (l.k _ h0).trans h2, h3.le l⟩
  | oins p C ds => obtain ⟨Ca, dx, vs, h1, h0, h2, h3⟩ := h; exact ⟨Ca, dx, vs, h1, by rw [l.g]; exact h0, (ho rfl p h1).trans h2, h3.le l⟩
  | d x => exact Dn.le l h

theorem Rs.ldn {K : PySem.W.Frag} {W : Wd} {H : Hp} {ds : List (Key × D)} {x : V} (h : Rs K W H (.ldic ds) x) : Dn K W H (.dic ds) x := by
  obtain ⟨p, vs, od, rfl, h0, h2, h3⟩ := h
  exact .dic h0 ⟨.inr ⟨od, h2⟩⟩ h3
/-- the slots, as data -/
abbrev Sl := List (Option S)
structure Rho where
  sl : Sl
  mm : Mem
def Rho.set (ρ : Rho) (i : Nat) (o : Option S) : Rho := ⟨ρ.sl.set i o, ρ.mm⟩
def Ow (ρ : Rho) (σ : L2.St) (a : Addr) : Prop := ∃ (i : Nat) (d : S), ρ.sl[i]? = some (some d) ∧ d.isOwn = true ∧ σ[i]? = some (some (.ref a))
/-- the entry of a def -/
structure Gx where
  W : Wd
  H : Hp
structure Ok (K : PySem.W.Frag) (G : Gx) (W : Wd) (ρ : Rho) (σ : L2.St) (H : Hp) : Prop where
  len : σ.length = ρ.sl.length
  val : ∀ (i : Nat) (d : S), ρ.sl[i]? = some (some d) → ∃ x, σ[i]? = some (some x) ∧ Rs K W H d x
  frs : ∀ a, Ow ρ σ a → ¬ W.F a ∧ ¬ W.J a ∧ ¬ a ∈ W.C ∧ G.H a = none
  inj : ∀ (i j : Nat) (d e : S) (a : Addr), ρ.sl[i]? = some (some d) → ρ.sl[j]? = some (some e) → d.isOwn = true → e.isOwn = true → σ[i]? = some (some (.ref a)) → σ[j]? = some (some (.ref a)) → i = j
  al : Al W H
  en : Step no1 G.W G.H W H
  mm : Cells K W ρ.mm H
/-- from one state of a frame to another, the slots' values as they were -/
structure Go (K : PySem.W.Frag) (G : Gx) (σ : L2.St) (ρ : Rho) (W : Wd) (H : Hp) (ρ' : Rho) (W' : Wd) (H' : Hp) : Prop where
  ok : Ok K G W' ρ' σ H'
  stp : Step (Ow ρ σ) W H W' H'
  sub : ∀ a, Ow ρ' σ a → Ow ρ σ a
section
variable {K : PySem.W.Frag} {G : Gx} {σ : L2.St} {ρ ρ1 ρ2 : Rho} {W W1 W2 : Wd} {H H1 H2 : Hp}
theorem Go.refl (ok : Ok K G W ρ σ H) : Go K G σ ρ W H ρ W H := ⟨ok, .refl _ _ _, fun _ h => h⟩
theorem Go.trans (a : Go K G σ ρ W H ρ1 W1 H1) (b : Go K G σ ρ1 W1 H1 ρ2 W2 H2) : Go K G σ ρ W H ρ2 W2 H2 :=
  ⟨b.ok, a.stp.trans b.stp fun x h => .inl (a.sub x h), fun x h => a.sub x (b.sub x h)⟩
theorem Ok.here (ok : Ok K G W ρ σ H) {a : Addr} (h : Ow ρ σ a) : ∃ o, H a = some o := by
  obtain ⟨i, d, h1, h2, h3⟩ := h
  obtain ⟨x, e, r⟩ := ok.val i d h1
  rw [h3] at e
  cases e
  obtain ⟨p, o, e1, e2⟩ := r.ow h2
  cases e1
  exact ⟨o, e2⟩
theorem Ok.upG (ok : Ok K G W ρ σ H) {a : Addr} (h : H a = none) : G.H a = none := ok.en.up a h
/-- the heap and the world grow, what is own stays: the same slots -/
theorem Ok.grow (ok : Ok K G W ρ σ H) (s : Step no1 W H W1 H1) (al : Al W1 H1) {μ : Mem} (mm : Cells K W1 μ H1) : Go K G σ ρ W H ⟨ρ.sl, μ⟩ W1 H1 := by
  have nf : ∀ a, Ow ρ σ a → ¬ W1.F a ∧ ¬ W1.J a ∧ ¬ a ∈ W1.C ∧ H1 a = H a := fun a h => by
    obtain ⟨o, ho⟩ := ok.here h
    obtain ⟨f1, f2, f3, f4⟩ := ok.frs a h
    refine ⟨fun q => ?_, fun q => ?_, fun q => ?_, ?_⟩
    · rcases s.nF a q with z | z | z
      · exact f1 z
      · rw [ho] at z; cases z
      · exact z.elim
    · rcases s.nJ a q with z | z
      · exact f2 z
      · rw [ho] at z; cases z
    · rcases s.nC a q with z | z
      · exact f3 z
      · rw [ho] at z; cases z
    · rw [ho]; exact s.st a o ho f2 f3 fun z => z.elim
  have ow : ∀ a, Ow (⟨ρ.sl, μ⟩ : Rho) σ a → Ow ρ σ a := fun _ h => h
  refine ⟨⟨ok.len, fun i d h => ?_, fun a h => ⟨(nf a h).1, (nf a h).2.1, (nf a h).2.2.1, (ok.frs a h).2.2.2⟩, ok.inj, al, ok.en.trans s fun _ h => h.elim, mm⟩, s.mono fun _ h => h.elim, fun _ h => h⟩
  obtain ⟨x, e, r⟩ := ok.val i d h
  exact ⟨x, e, r.le s.le fun ho p hp => (nf p ⟨i, d, h, ho, by rw [e, hp]⟩).2.2.2⟩
/-- .. the cells as they were -/
theorem Ok.grow0 (ok : Ok K G W ρ σ H) (s : Step no1 W H W1 H1) (al : Al W1 H1) (e : W1.C = W.C) (k : ∀ a ∈ W.C, H1 a = H a) : Go K G σ ρ W H ρ W1 H1 :=
  ok.grow s al (ok.mm.keep s.le e k)
/-- a new object -/
theorem step_new {W : Wd} {H : Hp} {p : Addr} {o : HO} (al : Al W H) (h : H p = none) : Step no1 W H W (upd H p o) where
  le := .same fun a q => by
    obtain ⟨u, e⟩ := al.f a q
    exact upd_ne (ne_of_none e h)
  nF := fun _ q => .inl q
  nJ := fun _ q => .inl q
  nC := fun _ q => .inl q
  st := fun a u e _ _ _ => by rw [upd_ne (ne_of_none e h)]; exact e
  up := fun a e => by
    by_cases q : a = p
    · subst q; exact h
    · rw [upd_ne q] at e; exact e
theorem al_new {W : Wd} {H : Hp} {p : Addr} {o : HO} (al : Al W H) (h : H p = none) : Al W (upd H p o) where
  f := fun a q => by
    obtain ⟨u, e⟩ := al.f a q
    exact ⟨u, by rw [upd_ne (ne_of_none e h)]; exact e⟩
  j := fun a q => by
    obtain ⟨u, e⟩ := (al.j a q).some
    exact (al.j a q).le (step_new al h).le (upd_ne (ne_of_none e h))
  d := al.d
  c := fun a q => by
    obtain ⟨h1, h2, u, e⟩ := al.c a q
    exact ⟨h1, h2, u, by rw [upd_ne (ne_of_none e h)]; exact e⟩
  nd := al.nd
  t := al.t
theorem cells_new {W : Wd} {H : Hp} {p : Addr} {o : HO} (al : Al W H) (h : H p = none) : ∀ a ∈ W.C, upd H p o a = H a := fun a q => by
  obtain ⟨_, _, u, e⟩ := al.c a q
  exact upd_ne (ne_of_none e h)
theorem step_frz {W : Wd} {H : Hp} {p : Addr} {o : HO} (al : Al W H) (h : H p = none) : Step no1 W H (W.add p) (upd H p o) where
  le := .add (step_new al h).le.k
  nF := fun a q => q.imp id fun e => .inl (by rw [e]; exact h)
  nJ := fun _ q => .inl q
  nC := fun _ q => .inl q
  st := (step_new al h).st
  up := (step_new al h).up
theorem al_frz {W : Wd} {H : Hp} {p : Addr} {o : HO} (al : Al W H) (h : H p = none) : Al (W.add p) (upd H p o) where
  f := fun a q => q.elim ((al_new al h).f a) fun e => ⟨o, by rw [e]; exact upd_same⟩
  j := fun a q => (al.j a q).le (step_frz (o := o) al h).le (by
    obtain ⟨u, e⟩ := (al.j a q).some
    exact upd_ne (ne_of_none e h))
  d := fun a q z => z.elim (al.d a q) fun e => by
    obtain ⟨u, e'⟩ := (al.j a q).some
    rw [e, h] at e'
    cases e'
  c := fun a q => by
    obtain ⟨h1, h2, u, e⟩ := al.c a q
    refine ⟨fun z => z.elim h1 fun e' => ?_, h2, u, by rw [upd_ne (ne_of_none e h)]; exact e⟩
    rw [e', h] at e
    cases e
  nd := al.nd
  t := al.t
/-- a value that has come behind H0 -/
structure Res (K : PySem.W.Frag) (H0 : Hp) (W : Wd) (H : Hp) (d : S) (x : V) : Prop where
  rs : Rs K W H d x
  fr : d.isOwn = true → ∀ p, x = .ref p → ¬ W.F p ∧ ¬ W.J p ∧ ¬ p ∈ W.C ∧ H0 p = none
theorem Res.of {K : PySem.W.Frag} {H0 : Hp} {W : Wd} {H : Hp} {d : D} {x : V} (h : Dn K W H d x) : Res K H0 W H (.d d) x :=
  ⟨h, fun o => by cases o⟩
theorem Go.freeze {K : PySem.W.Frag} {G : Gx} {σ : L2.St} {ρ ρ1 : Rho} {W W1 : Wd} {H H1 : Hp} {d : S} {x : V} (ok : Ok K G W ρ σ H) (g : Go K G σ ρ W H ρ1 W1 H1) (r : Res K H W1 H1 d x) :
    ∃ W2, Go K G σ ρ W H ρ1 W2 H1 ∧ Dn K W2 H1 d.frz x ∧ Le W1 H1 W2 H1 := by
  cases ho : d.isOwn with
  | false =>
    cases d <;> first | (cases ho; done) | exact ⟨W1, g, r.rs, .refl _ _⟩ | exact ⟨W1, g, r.rs.ldn, .refl _ _⟩
  | true =>
    obtain ⟨p, o, rfl, hp⟩ := r.rs.ow ho
    obtain ⟨nf, nj, nc, h0⟩ := r.fr ho p rfl
    have l : Le W1 H1 (W1.add p) H1 := .add fun _ _ => rfl
    have al : Al (W1.add p) H1 := ⟨fun a q => q.elim (g.ok.al.f a) fun e => ⟨o, by rw [e]; exact hp⟩, fun a q => (g.ok.al.j a q).le l rfl, fun a q z => z.elim (g.ok.al.d a q) fun e => nj (by rw [← e]; exact q), fun a q => ⟨fun z => z.elim (g.ok.al.c a q).1 fun e => nc (by rw [← e]; exact q), (g.ok.al.c a q).2⟩, g.ok.al.nd, g.ok.al.t⟩
    refine ⟨W1.add p, ⟨⟨g.ok.len, fun i e h => ?_, fun a h => ?_, g.ok.inj, al, ?_, g.ok.mm.keep l rfl fun _ _ => rfl⟩, ?_, g.sub⟩, ?_, l⟩
    · obtain ⟨y, e1, e2⟩ := g.ok.val i e h
      exact ⟨y, e1, e2.le l fun _ _ _ => rfl⟩
    · obtain ⟨a1, a2, a4, a3⟩ := g.ok.frs a h
      refine ⟨fun z => z.elim a1 fun e => ?_, a2, a4, a3⟩
      obtain ⟨u, hu⟩ := ok.here (g.sub a h)
      rw [e, h0] at hu
      cases hu
    · exact ⟨g.ok.en.le.trans l, fun a q => q.elim (g.ok.en.nF a) fun e => .inr (.inl (by rw [e]; exact ok.upG h0)), g.ok.en.nJ, g.ok.en.nC, g.ok.en.st, g.ok.en.up⟩
    · exact ⟨g.stp.le.trans l, fun a q => q.elim (g.stp.nF a) fun e => .inr (.inl (by rw [e]; exact h0)), g.stp.nJ, g.stp.nC, g.stp.st, g.stp.up⟩
    · cases d with
      | own ds =>
        obtain ⟨q, vs, e1, e2, e3⟩ := r.rs
        cases e1
        exact .lst (.inr rfl) e2 (e3.le l)
      | odic ds =>
        obtain ⟨q, vs, e1, e2, e3⟩ := r.rs
        cases e1
        exact .dic (.inr rfl) ⟨.inl e2⟩ (e3.le l)
      | oins q C ds =>
        obtain ⟨Ca, dx, vs, e1, e0, e2, e3⟩ := r.rs
        cases e1
        exact .ins (.inr rfl) e0 e2 (e3.le l)
      | _ => cases ho
end
/-- an exception as data: its class, its attributes -/
structure Exn where
  cls : Str
  fs : List (Str × D)
/-- the class that a name tells -/
def Wd.cv (W : Wd) (x : Str) (c : Value) : Prop := W.g x = some c ∨ (W.g x = none ∧ bootBuiltins x = some c)
def ExAt (K : PySem.W.Frag) (W : Wd) (H : Hp) (x : Exn) (c : Value) (dx : Option Addr) : Prop :=
  W.cv x.cls c ∧ ((dx = none ∧ x.fs = []) ∨ ∃ a vs, dx = some a ∧ W.F a ∧ H a = some (.xd vs) ∧ DnF K W H x.fs vs)
abbrev ZK := Exn → Rho → Prop
/-- readings over data -/
abbrev WE := ZK → Rho → (S → Rho → Prop) → Prop
abbrev WT := ZK → Rho → (Bool → Rho → Prop) → Prop
abbrev WA := ZK → Rho → (List D → Rho → Prop) → Prop
structure DEnds where
  nx : Rho → Prop
  rt : S → Mem → Prop
  bk : Rho → Prop
  ct : Rho → Prop
  ex : ZK
abbrev WS := DEnds → Rho → Prop
/-- a def over data -/
abbrev WF := (Exn → Mem → Prop) → List D → Mem → (S → Mem → Prop) → Prop
section
variable (K : PySem.W.Frag) (G : Gx) (T : WX)
def lZ (Z : ZK) (σ : L2.St) (ρ : Rho) (W : Wd) (H : Hp) : Prop := ∀ x ρ' W' H' c dx, Z x ρ' → Go K G σ ρ W H ρ' W' H' → ExAt K W' H' x c dx → T c dx σ H'
def lE (w : WE) : TE := fun σ H Q => ∃ (W : Wd) (ρ : Rho) (R : S → Rho → Prop) (Z : ZK), Ok K G W ρ σ H ∧ w Z ρ R ∧
  (∀ d ρ' W' x H', R d ρ' → Go K G σ ρ W H ρ' W' H' → Res K H W' H' d x → Q x H') ∧ lZ K G T Z σ ρ W H
def lT (w : WT) : TT := fun σ H Q => ∃ (W : Wd) (ρ : Rho) (R : Bool → Rho → Prop) (Z : ZK), Ok K G W ρ σ H ∧ w Z ρ R ∧
  (∀ b ρ' W' H', R b ρ' → Go K G σ ρ W H ρ' W' H' → Q b H') ∧ lZ K G T Z σ ρ W H
def lA (w : WA) : TA := fun σ H Q => ∃ (W : Wd) (ρ : Rho) (R : List D → Rho → Prop) (Z : ZK), Ok K G W ρ σ H ∧ w Z ρ R ∧
  (∀ ds ρ' W' xs H', R ds ρ' → Go K G σ ρ W H ρ' W' H' → DnA K W' H' ds xs → Q xs H') ∧ lZ K G T Z σ ρ W H
/-- a statement: the slots may change -/
def lX (Z : ZK) (W : Wd) (H : Hp) : Prop := ∀ x ρ' W' σ' H' c dx, Z x ρ' → Ok K G W' ρ' σ' H' → Le W H W' H' → ExAt K W' H' x c dx → T c dx σ' H'
def lN (N : Rho → Prop) (P : L2.St → Hp → Prop) (W : Wd) (H : Hp) : Prop := ∀ ρ' W' σ' H', N ρ' → Ok K G W' ρ' σ' H' → Le W H W' H' → P σ' H'
def lR (R : S → Mem → Prop) (Q : VK) (W : Wd) (H : Hp) : Prop := ∀ d ρ' W' σ' x H', R d ρ'.mm → Ok K G W' ρ' σ' H' → Le W H W' H' → Res K G.H W' H' d x → Q x H'
def lS (w : WS) : TS := fun D σ H => ∃ (W : Wd) (ρ : Rho) (E : DEnds), Ok K G W ρ σ H ∧ w E ρ ∧
  lN K G E.nx D.nx W H ∧ lR K G E.rt D.rt W H ∧ lN K G E.bk D.bk W H ∧ lN K G E.ct D.ct W H ∧ lX K G T E.ex W H
end
section
variable {K : PySem.W.Frag} {G : Gx} {T : WX}
theorem lZ.go {Z : ZK} {σ : L2.St} {ρ ρ1 : Rho} {W W1 : Wd} {H H1 : Hp} (z : lZ K G T Z σ ρ W H) (g : Go K G σ ρ W H ρ1 W1 H1) : lZ K G T Z σ ρ1 W1 H1 :=
  fun x ρ' W' H' c dx h g' e => z x ρ' W' H' c dx h (g.trans g') e
theorem Res.up {H0 H1 : Hp} {W : Wd} {H : Hp} {d : S} {x : V} (r : Res K H1 W H d x) (u : ∀ a, H1 a = none → H0 a = none) : Res K H0 W H d x :=
  ⟨r.rs, fun o p e => let ⟨a, b, c, d⟩ := r.fr o p e; ⟨a, b, c, u p d⟩⟩
theorem lN.le {N : Rho → Prop} {P : L2.St → Hp → Prop} {W W1 : Wd} {H H1 : Hp} (h : lN K G N P W H) (l : Le W H W1 H1) : lN K G N P W1 H1 :=
  fun ρ' W' σ' H' n o q => h ρ' W' σ' H' n o (l.trans q)
theorem lR.le {R : S → Mem → Prop} {Q : VK} {W W1 : Wd} {H H1 : Hp} (h : lR K G R Q W H) (l : Le W H W1 H1) : lR K G R Q W1 H1 :=
  fun d ρ' W' σ' x H' n o q => h d ρ' W' σ' x H' n o (l.trans q)
theorem lX.le {Z : ZK} {W W1 : Wd} {H H1 : Hp} (h : lX K G T Z W H) (l : Le W H W1 H1) : lX K G T Z W1 H1 :=
  fun x ρ' W' σ' H' c dx n o q => h x ρ' W' σ' H' c dx n o (l.trans q)
theorem lX.z {Z : ZK} {W : Wd} {H : Hp} (h : lX K G T Z W H) (σ : L2.St) (ρ : Rho) : lZ K G T Z σ ρ W H :=
  fun x ρ' W' H' c dx n g e => h x ρ' W' σ H' c dx n g.ok g.stp.le e
end
/-! ### the judgements -/
def DE (X : Cx) (G : Gx) (T : WX) (e : Expr) (w : WE) : Prop := PE X e (lE X.K G T w)
def DT (X : Cx) (G : Gx) (T : WX) (e : Expr) (w : WT) : Prop := PT X e (lT X.K G T w)
def DA (X : Cx) (G : Gx) (T : WX) (es : List Expr) (w : WA) : Prop := PA X es (lA X.K G T w)
def DS (X : Cx) (G : Gx) (T : WX) (st : Stmt) (w : WS) : Prop := PS X st (lS X.K G T w)
def DSs (X : Cx) (G : Gx) (T : WX) (st : List Stmt) (w : WS) : Prop := PSs X st (lS X.K G T w)
theorem pe_weak {X : Cx} {e : Expr} {t t' : TE} (h : PE X e t) (i : ∀ σ H Q, t' σ H Q → t σ H Q) : PE X e t' := ⟨fun p s σ H Q I q => h.run p s σ H Q I (i σ H Q q)⟩
theorem pt_weak {X : Cx} {e : Expr} {t t' : TT} (h : PT X e t) (i : ∀ σ H Q, t' σ H Q → t σ H Q) : PT X e t' := ⟨fun p s σ H Q I q => h.run p s σ H Q I (i σ H Q q)⟩
theorem pw_weak {X : Cx} {e : Expr} {t t' : TT} (h : PW X e t) (i : ∀ σ H Q, t' σ H Q → t σ H Q) : PW X e t' := ⟨fun wh p s σ H Q I q => h.run wh p s σ H Q I (i σ H Q q)⟩
theorem pa_weak {X : Cx} {e : List Expr} {t t' : TA} (h : PA X e t) (i : ∀ σ H Q, t' σ H Q → t σ H Q) : PA X e t' := ⟨fun po p s σ H Q I q => h.run po p s σ H Q I (i σ H Q q)⟩
theorem ps_weak {X : Cx} {e : Stmt} {t t' : TS} (h : PS X e t) (i : ∀ D σ H, t' D σ H → t D σ H) : PS X e t' := ⟨fun p s σ H D I q => h.run p s σ H D I (i D σ H q)⟩
theorem pss_weak {X : Cx} {e : List Stmt} {t t' : TS} (h : PSs X e t) (i : ∀ D σ H, t' D σ H → t D σ H) : PSs X e t' := ⟨fun p s σ H D I q => h.run p s σ H D I (i D σ H q)⟩
end DL


/-! DL1: rules for expressions and tests. -/
namespace DL
open PySem PySem.Spec L2
section
variable {K : PySem.W.Frag} {G : Gx} {T : WX} {σ : L2.St} {ρ ρ1 : Rho} {W W1 : Wd} {H H1 : Hp}
/-! ### slots -/
theorem set_get {α : Type} {l : List α} {i j : Nat} {a b : α} (h : (l.set i a)[j]? = some b) : (i = j ∧ a = b) ∨ (i ≠ j ∧ l[j]? = some b) := by
  rw [List.getElem?_set] at h
  split at h
  · split at h
    · cases h; exact .inl ⟨‹_›, rfl⟩
    · cases h
  · exact .inr ⟨‹_›, h⟩
/-- slot i, own so far, is frozen -/
theorem Ok.freezeSlot (ok : Ok K G W ρ σ H) {i : Nat} {d : S} (h : ρ.sl[i]? = some (some d)) : ∃ x W2, σ[i]? = some (some x) ∧ Go K G σ ρ W H (if d.isOwn = true then ρ.set i (some (.d d.frz)) else ρ) W2 H ∧ Dn K W2 H d.frz x := by
  obtain ⟨x, e, r⟩ := ok.val i d h
  cases ho : d.isOwn with
  | false =>
    cases d <;> first | (cases ho; done) | exact ⟨x, W, e, .refl ok, r⟩ | exact ⟨x, W, e, .refl ok, r.ldn⟩
  | true =>
    obtain ⟨p, o, rfl, hp⟩ := r.ow ho
    have hO : Ow ρ σ p := ⟨i, d, h, ho, e⟩
    obtain ⟨nf, nj, nc, h0⟩ := ok.frs p hO
    have l : Le W H (W.add p) H := .add fun _ _ => rfl
    have al : Al (W.add p) H := ⟨fun a q => q.elim (ok.al.f a) fun e => ⟨o, by rw [e]; exact hp⟩, fun a q => (ok.al.j a q).le l rfl, fun a q z => z.elim (ok.al.d a q) fun e => nj (by rw [← e]; exact q), fun a q => ⟨fun z => z.elim (ok.al.c a q).1 fun e => nc (by rw [← e]; exact q), (ok.al.c a q).2⟩, ok.al.nd, ok.al.t⟩
    have hd : Dn K (W.add p) H d.frz (.ref p) := by
      cases d with
      | own ds =>
        obtain ⟨q, vs, e1, e2, e3⟩ := r
        cases e1
        exact .lst (.inr rfl) e2 (e3.le l)
      | odic ds =>
        obtain ⟨q, vs, e1, e2, e3⟩ := r
        cases e1
        exact .dic (.inr rfl) ⟨.inl e2⟩ (e3.le l)
      | oins q C ds =>
        obtain ⟨Ca, dx, vs, e1, e0, e2, e3⟩ := r
        cases e1
        exact .ins (.inr rfl) e0 e2 (e3.le l)
      | _ => cases ho
    have sub : ∀ a, Ow (ρ.set i (some (.d d.frz))) σ a → Ow ρ σ a ∧ a ≠ p := fun a ⟨j, f, f1, f2, f3⟩ => by
      rcases set_get f1 with ⟨z1, z2⟩ | ⟨z1, z2⟩
      · cases z2; cases f2
      · refine ⟨⟨j, f, z2, f2, f3⟩, fun q => ?_⟩
        subst q
        exact z1 (ok.inj i j d f a h z2 ho f2 e f3)
    refine ⟨.ref p, W.add p, e, ?_, hd⟩
    rw [if_pos rfl]
    refine ⟨⟨ok.len.trans List.length_set.symm, fun j f hj => ?_, fun a hA => ?_, fun a b f f' c h1 h2 o1 o2 => ?_, al, ?_, ok.mm.keep l rfl fun _ _ => rfl⟩, ?_, fun a h => (sub a h).1⟩
    · rcases set_get hj with ⟨z1, z2⟩ | ⟨z1, z2⟩
      · cases z2; subst z1; exact ⟨_, e, hd⟩
      · obtain ⟨y, e1, e2⟩ := ok.val j f z2
        exact ⟨y, e1, e2.le l fun _ _ _ => rfl⟩
    · obtain ⟨hA, hne⟩ := sub a hA
      obtain ⟨a1, a2, a4, a3⟩ := ok.frs a hA
      exact ⟨fun z => z.elim a1 hne, a2, a4, a3⟩
    · rcases set_get h1 with ⟨z1, z2⟩ | ⟨z1, z2⟩
      · cases z2; cases o1
      · rcases set_get h2 with ⟨y1, y2⟩ | ⟨y1, y2⟩
        · cases y2; cases o2
        · exact ok.inj a b f f' c z2 y2 o1 o2
    · exact ⟨ok.en.le.trans l, fun a q => q.elim (ok.en.nF a) fun e => .inr (.inl (by rw [e]; exact h0)), ok.en.nJ, ok.en.nC, ok.en.st, ok.en.up⟩
    · exact ⟨l, fun a q => q.elim .inl fun e => .inr (.inr (by rw [e]; exact hO)), fun _ q => .inl q, fun _ q => .inl q, fun _ _ e _ _ _ => e, fun _ e => e⟩
def wVar (i : Nat) : WE := fun _ ρ R => match ρ.sl[i]? with
  | some (some d) => R (.d d.frz) (if d.isOwn = true then ρ.set i (some (.d d.frz)) else ρ)
  | _ => False
theorem lE_var {i : Nat} {Q : VK} (h : lE K G T (wVar i) σ H Q) : tVar i σ H Q := by
  obtain ⟨W, ρ, R, Z, ok, h, hR, _⟩ := h
  unfold wVar at h
  split at h
  · rename_i d e
    obtain ⟨x, W2, e1, g, hd⟩ := ok.freezeSlot e
    exact ⟨x, e1, hR _ _ W2 x H h g (.of hd)⟩
  · exact h.elim
end
section
variable {X : Cx} {G : Gx} {T : WX} {e a b c : Expr} {w wa wb wc : WE} {pos p : Pos}
theorem de_var (i : Nat) {x : Str} (hN : X.N[i]? = some x := by rfl) (hv : Vis X.env.scope x := by first | exact Or.inl rfl | exact Or.inr (Or.inl rfl) | exact Or.inr (Or.inr rfl)) (hd : (x == ("__debug__" : Str)) = false := by decide)
    (hcd : (x == ("__classdict__" : Str)) = false := by decide) : DE X G T (.Name x pos) (wVar i) :=
  pe_weak (pv i hN hv hd hcd) fun σ H Q h => lE_var h
def wC (d : D) : WE := fun _ ρ R => R (.d d) ρ
theorem de_const {d : D} {x : V} (h : PE X e (tC x)) (hd : ∀ W H, Dn X.K W H d x) : DE X G T e (wC d) :=
  pe_weak h fun σ H Q ⟨W, ρ, R, Z, ok, h, hR, _⟩ => hR _ _ W x H h (.refl ok) (.of (hd W H))
theorem de_int {i j} : DE X G T (.Constant (.int i) j pos) (wC (.int i)) := de_const pe_int fun _ _ => .int i
theorem de_bl {i j} : DE X G T (.Constant (.bool i) j pos) (wC (.bl i)) := de_const pe_bl fun _ _ => .bl i
theorem de_non {j} : DE X G T (.Constant .none j pos) (wC .non) := de_const pe_non fun _ _ => .non
theorem de_str {i j} : DE X G T (.Constant (.str i) j pos) (wC (.str i)) := de_const pe_str fun _ _ => .str i
/-- an int, a text or a bool of the module's top -/
theorem de_gint {x : Str} {i : Int} {t : Tok} (hg : Gl X x) (hm : X.mg x = some (.int i t)) (hd : (x == ("__debug__" : Str)) = false := by decide) : DE X G T (.Name x pos) (wC (.int i)) :=
  de_const (pe_glob (v := .int i) hg hm ⟨t, rfl⟩ hd) fun _ _ => .int i
/-- a builtin class -/
theorem de_bty {x : Str} {n : String} (hg : Gl X x) (hm : X.mg x = none) (hv : bootBuiltins x = some (.type n)) (hn : x ≠ "__name__" := by decide) (hd : (x == ("__debug__" : Str)) = false := by decide) : DE X G T (.Name x pos) (wC (.v (.ty n))) :=
  de_const (pe_bltn (v := .ty n) hg hm hv rfl hn hd) fun _ _ => .v _

/-! ### two expressions -/
def wBin (f : D → D → (S → Prop) → Prop) (wa wb : WE) : WE := fun Z ρ R => wa Z ρ fun x ρ1 => wb Z ρ1 fun y ρ2 => f x.frz y.frz fun z => R z ρ2
/-- an operation on values, over data -/
def OpD (K : PySem.W.Frag) (r : R2) (f : D → D → (S → Prop) → Prop) : Prop :=
  ∀ (G : Gx) (W : Wd) (ρ : Rho) (σ : L2.St) (H : Hp) (d e : D) (x y : V) (R : S → Prop) (Q : VK), Ok K G W ρ σ H → Dn K W H d x → Dn K W H e y → f d e R →
    (∀ z W' v H', R z → Go K G σ ρ W H ρ W' H' → Res K H W' H' z v → Q v H') → r x y H Q
/-- evaluate a, freeze -/
theorem lE_then {K : PySem.W.Frag} {σ : L2.St} {ρ : Rho} {W : Wd} {H : Hp} {wa : WE} {Z : ZK} {R : D → Rho → Prop} {Q : VK} (ok : Ok K G W ρ σ H) (h : wa Z ρ fun x ρ1 => R x.frz ρ1) (hZ : lZ K G T Z σ ρ W H)
    (hq : ∀ d ρ1 W1 x H1, R d ρ1 → Go K G σ ρ W H ρ1 W1 H1 → Dn K W1 H1 d x → Q x H1) : lE K G T wa σ H Q :=
  ⟨W, ρ, _, Z, ok, h, fun d ρ1 W1 x H1 hr g r => by
    obtain ⟨W2, g2, hd, l⟩ := g.freeze ok r
    exact hq _ _ _ _ _ hr g2 hd, hZ⟩
theorem lE_bin {r : R2} {f : D → D → (S → Prop) → Prop} (ho : OpD X.K r f) {σ : L2.St} {H : Hp} {Q : VK} (h : lE X.K G T (wBin f wa wb) σ H Q) : tOp r (lE X.K G T wa) (lE X.K G T wb) σ H Q := by
  obtain ⟨W, ρ, R, Z, ok, h, hR, hZ⟩ := h
  refine lE_then (R := fun x ρ1 => wb Z ρ1 fun y ρ2 => f x y.frz fun z => R z ρ2) ok h hZ fun d ρ1 W1 x H1 h1 g1 d1 => ?_
  refine lE_then (R := fun y ρ2 => f d y fun z => R z ρ2) g1.ok h1 (hZ.go g1) fun e ρ2 W2 y H2 h2 g2 d2 => ?_
  refine ho G W2 ρ2 σ H2 d e x y _ Q g2.ok (d1.le g2.stp.le) d2 h2 fun z W' v H' hz g3 r3 => ?_
  exact hR z ρ2 W' v H' hz ((g1.trans g2).trans g3) (r3.up fun a q => (g1.trans g2).stp.up a q)
theorem de_op {op : Operator} {r : R2} {f : D → D → (S → Prop) → Prop} (hr : OpR X (binaryOp op) r) (ho : OpD X.K r f) (ha : DE X G T a wa) (hb : DE X G T b wb) : DE X G T (.BinOp a op b pos) (wBin f wa wb) :=
  pe_weak (pe_op hr ha hb) fun _ _ _ h => lE_bin ho h
theorem de_cmp {op : CmpOp} {r : R2} {f : D → D → (S → Prop) → Prop} (hr : OpR X (compareOp op) r) (ho : OpD X.K r f) (ha : DE X G T a wa) (hb : DE X G T b wb) (hm : behindInMarks op b = false) : DE X G T (.Compare a [op] [b] pos) (wBin f wa wb) :=
  pe_weak (pe_cmpR hr ha hb hm) fun _ _ _ h => lE_bin ho h
/-! ### tests -/
def S.isB (d : S) (R : Bool → Prop) : Prop := match d with
  | .d (.bl b) => R b
  | _ => False
theorem S.isB_of {d : S} {R : Bool → Prop} (h : d.isB R) : ∃ b, d = .d (.bl b) ∧ R b := by
  unfold S.isB at h
  split at h
  · exact ⟨_, rfl, h⟩
  · exact h.elim
def wB (w : WE) : WT := fun Z ρ R => w Z ρ fun d ρ' => d.isB fun b => R b ρ'
theorem lT_B {K : PySem.W.Frag} {σ : L2.St} {H : Hp} {Q : Bool → Hp → Prop} {t : TE} (ht : ∀ Q, lE K G T w σ H Q → t σ H Q) (h : lT K G T (wB w) σ H Q) : tTest t σ H Q := by
  obtain ⟨W, ρ, R, Z, ok, h, hR, hZ⟩ := h
  refine ht _ ⟨W, ρ, _, Z, ok, h, fun d ρ' W' x H' hb g r => ?_, hZ⟩
  obtain ⟨k, rfl, hb⟩ := S.isB_of hb
  have q : Dn K W' H' (.bl k) x := r.rs
  cases q
  exact ⟨k, rfl, hR _ _ _ _ hb g⟩
theorem dt_val (h : DE X G T e w) (he : ∀ whole, isTrue e X.env whole = (do let v ← whole; standAt e.pos; holding [v] (truthy v)) := by intro _; rfl) : DT X G T e (wB w) :=
  pt_weak (pt_val h he) fun _ _ _ h => lT_B (fun _ q => q) h
theorem dt_cmp {op : CmpOp} {r : R2} {f : D → D → (S → Prop) → Prop} (hr : OpR X (compareOp op) r) (ho : OpD X.K r f) (ha : DE X G T a wa) (hb : DE X G T b wb) (hm : behindInMarks op b = false) : DT X G T (.Compare a [op] [b] pos) (wB (wBin f wa wb)) :=
  pt_weak (pt_cmpR hr ha hb hm) fun _ _ _ h => lT_B (fun _ q => lE_bin ho q) h
/-- a op b op' c -/
def wChain (f f' : D → D → (S → Prop) → Prop) (wa wb wc : WE) : WE := fun Z ρ R => wa Z ρ fun x ρ1 => wb Z ρ1 fun y ρ2 => f x.frz y.frz fun z => z.isB fun k =>
  if k = true then wc Z ρ2 fun u ρ3 => f' y.frz u.frz fun z => R z ρ3 else R (.d (.bl false)) ρ2
theorem lE_chain {r r' : R2} {f f' : D → D → (S → Prop) → Prop} (ho : OpD X.K r f) (ho' : OpD X.K r' f') {σ : L2.St} {H : Hp} {Q : VK} (h : lE X.K G T (wChain f f' wa wb wc) σ H Q) : tChain r r' (lE X.K G T wa) (lE X.K G T wb) (lE X.K G T wc) σ H Q := by
  obtain ⟨W, ρ, R, Z, ok, h, hR, hZ⟩ := h
  refine lE_then (R := fun x ρ1 => wb Z ρ1 fun y ρ2 => f x y.frz fun z => z.isB fun k => if k = true then wc Z ρ2 fun u ρ3 => f' y.frz u.frz fun z => R z ρ3 else R (.d (.bl false)) ρ2) ok h hZ fun d ρ1 W1 x H1 h1 g1 d1 => ?_
  refine lE_then (R := fun y ρ2 => f d y fun z => z.isB fun k => if k = true then wc Z ρ2 fun u ρ3 => f' y u.frz fun z => R z ρ3 else R (.d (.bl false)) ρ2) g1.ok h1 (hZ.go g1) fun e ρ2 W2 y H2 h2 g2 d2 => ?_
  have g12 := g1.trans g2
  refine ho G W2 ρ2 σ H2 d e x y _ _ g2.ok (d1.le g2.stp.le) d2 h2 fun z W' v H' hz g3 r3 => ?_
  obtain ⟨k, rfl, hz⟩ := S.isB_of hz
  have q : Dn X.K W' H' (.bl k) v := r3.rs
  cases q
  have g13 := g12.trans g3
  refine ⟨k, rfl, ?_⟩
  cases k with
  | false => exact hR _ _ _ _ _ hz g13 (.of (.bl false))
  | true =>
    simp only [if_true] at hz ⊢
    refine lE_then (R := fun u ρ3 => f' e u fun z => R z ρ3) g3.ok hz (hZ.go g13) fun u ρ3 W3 y3 H3 h3 g4 d3 => ?_
    refine ho' G W3 ρ3 σ H3 e u y y3 _ Q g4.ok ((d2.le g3.stp.le).le g4.stp.le) d3 h3 fun z W5 v5 H5 hz5 g5 r5 => ?_
    exact hR z ρ3 W5 v5 H5 hz5 ((g13.trans g4).trans g5) (r5.up fun a q => (g13.trans g4).stp.up a q)
theorem de_chain {op op' : CmpOp} {r r' : R2} {f f' : D → D → (S → Prop) → Prop} (hr : OpR X (compareOp op) r) (hr' : OpR X (compareOp op') r') (ho : OpD X.K r f) (ho' : OpD X.K r' f') (ha : DE X G T a wa) (hb : DE X G T b wb) (hc : DE X G T c wc)
    (hm : lastMarks [op, op'] [b, c] = false := by with_unfolding_all rfl) : DE X G T (.Compare a [op, op'] [b, c] pos) (wChain f f' wa wb wc) :=
  pe_weak (pe_chain hr hr' ha hb hc hm) fun _ _ _ h => lE_chain ho ho' h
/-! ### and, or, not -/
def DW (X : Cx) (G : Gx) (T : WX) (e : Expr) (w : WT) : Prop := PW X e (lT X.K G T w)
variable {t u v' : WT} {rest : List Expr}
def wAnd (t u : WT) : WT := fun Z ρ R => t Z ρ fun c ρ1 => if c = true then u Z ρ1 R else R false ρ1
def wOr (t u : WT) : WT := fun Z ρ R => t Z ρ fun c ρ1 => if c = true then R true ρ1 else u Z ρ1 R
def wNot (t : WT) : WT := fun Z ρ R => t Z ρ fun c ρ1 => R (!c) ρ1
theorem DW.pt (h : DW X G T e t) : DT X G T e t := PW.pt h
theorem dw_and1 (h : DT X G T a t) : DW X G T (.BoolOp .And [a] pos) t := pw_and1 h
theorem dw_or1 (h : DT X G T a t) : DW X G T (.BoolOp .Or [a] pos) t := pw_or1 h
theorem lT_then {K : PySem.W.Frag} {σ : L2.St} {ρ : Rho} {W : Wd} {H : Hp} {Z : ZK} {R : Bool → Rho → Prop} {Q : Bool → Hp → Prop} (ok : Ok K G W ρ σ H) (h : t Z ρ R) (hZ : lZ K G T Z σ ρ W H)
    (hq : ∀ d ρ1 W1 H1, R d ρ1 → Go K G σ ρ W H ρ1 W1 H1 → Q d H1) : lT K G T t σ H Q := ⟨W, ρ, R, Z, ok, h, hq, hZ⟩
theorem dw_and (ha : DT X G T a t) (hb : DW X G T (.BoolOp .And (b :: rest) pos) u) : DW X G T (.BoolOp .And (a :: b :: rest) pos) (wAnd t u) :=
  pw_weak (pw_and ha hb) fun σ H Q ⟨W, ρ, R, Z, ok, h, hR, hZ⟩ => lT_then ok h hZ fun c ρ1 W1 H1 hc g => by
    cases c with
    | true => exact ⟨W1, ρ1, R, Z, g.ok, hc, fun b ρ2 W2 H2 h2 g2 => hR b ρ2 W2 H2 h2 (g.trans g2), hZ.go g⟩
    | false => exact hR _ _ _ _ hc g
theorem dw_or (ha : DT X G T a t) (hb : DW X G T (.BoolOp .Or (b :: rest) pos) u) : DW X G T (.BoolOp .Or (a :: b :: rest) pos) (wOr t u) :=
  pw_weak (pw_or ha hb) fun σ H Q ⟨W, ρ, R, Z, ok, h, hR, hZ⟩ => lT_then ok h hZ fun c ρ1 W1 H1 hc g => by
    cases c with
    | false => exact ⟨W1, ρ1, R, Z, g.ok, hc, fun b ρ2 W2 H2 h2 g2 => hR b ρ2 W2 H2 h2 (g.trans g2), hZ.go g⟩
    | true => exact hR _ _ _ _ hc g
theorem dt_not (ha : DT X G T a t) : DT X G T (.UnaryOp .Not a pos) (wNot t) :=
  pt_weak (pt_not ha) fun σ H Q ⟨W, ρ, R, Z, ok, h, hR, hZ⟩ => lT_then ok h hZ fun c ρ1 W1 H1 hc g => hR _ _ _ _ hc g
/-- .. as values -/
def wAndV (wa wb : WE) : WE := fun Z ρ R => wa Z ρ fun x ρ1 => x.isB fun c => if c = true then wb Z ρ1 R else R (.d (.bl false)) ρ1
def wOrV (wa wb : WE) : WE := fun Z ρ R => wa Z ρ fun x ρ1 => x.isB fun c => if c = true then R (.d (.bl true)) ρ1 else wb Z ρ1 R
def wNotV (wa : WE) : WE := fun Z ρ R => wa Z ρ fun x ρ1 => x.isB fun c => R (.d (.bl (!c))) ρ1
theorem de_one {op} (h : DE X G T a wa) : DE X G T (.BoolOp op [a] pos) wa := pe_one h
theorem lE_bl {K : PySem.W.Frag} {σ : L2.St} {ρ : Rho} {W : Wd} {H : Hp} {Z : ZK} {R : Bool → Rho → Prop} {Q : Bool → Hp → Prop} (ok : Ok K G W ρ σ H) (h : wa Z ρ fun x ρ1 => x.isB fun c => R c ρ1) (hZ : lZ K G T Z σ ρ W H)
    (hq : ∀ c ρ1 W1 H1, R c ρ1 → Go K G σ ρ W H ρ1 W1 H1 → Q c H1) : lE K G T wa σ H fun x H1 => ∃ c, x = .bl c ∧ Q c H1 :=
  ⟨W, ρ, _, Z, ok, h, fun d ρ1 W1 x H1 hr g r => by
    obtain ⟨k, rfl, hr⟩ := S.isB_of hr
    have q : Dn K W1 H1 (.bl k) x := r.rs
    cases q
    exact ⟨k, rfl, hq _ _ _ _ hr g⟩, hZ⟩
theorem lE_on {K : PySem.W.Frag} {σ : L2.St} {ρ ρ1 : Rho} {W W1 : Wd} {H H1 : Hp} {Z : ZK} {R : S → Rho → Prop} {Q : VK} (g : Go K G σ ρ W H ρ1 W1 H1) (h : w Z ρ1 R) (hR : ∀ d ρ' W' x H', R d ρ' → Go K G σ ρ W H ρ' W' H' → Res K H W' H' d x → Q x H')
    (hZ : lZ K G T Z σ ρ W H) : lE K G T w σ H1 Q :=
  ⟨W1, ρ1, R, Z, g.ok, h, fun d ρ2 W2 x H2 h2 g2 r => hR d ρ2 W2 x H2 h2 (g.trans g2) (r.up g.stp.up), hZ.go g⟩
theorem de_and (ha : DE X G T a wa) (hb : DE X G T (.BoolOp .And (b :: rest) pos) wb) : DE X G T (.BoolOp .And (a :: b :: rest) pos) (wAndV wa wb) :=
  pe_weak (pe_and ha hb) fun σ H Q ⟨W, ρ, R, Z, ok, h, hR, hZ⟩ => lE_bl ok h hZ fun c ρ1 W1 H1 hc g => by
    cases c with
    | true => exact lE_on g hc hR hZ
    | false => exact hR _ _ _ _ _ hc g (.of (.bl false))
theorem de_or (ha : DE X G T a wa) (hb : DE X G T (.BoolOp .Or (b :: rest) pos) wb) : DE X G T (.BoolOp .Or (a :: b :: rest) pos) (wOrV wa wb) :=
  pe_weak (pe_or ha hb) fun σ H Q ⟨W, ρ, R, Z, ok, h, hR, hZ⟩ => lE_bl ok h hZ fun c ρ1 W1 H1 hc g => by
    cases c with
    | false => exact lE_on g hc hR hZ
    | true => exact hR _ _ _ _ _ hc g (.of (.bl true))
theorem de_not (ha : DE X G T a wa) : DE X G T (.UnaryOp .Not a pos) (wNotV wa) :=
  pe_weak (pe_not ha) fun σ H Q ⟨W, ρ, R, Z, ok, h, hR, hZ⟩ => lE_bl ok h hZ fun c ρ1 W1 H1 hc g => hR _ _ _ _ _ hc g (.of (.bl _))
/-- a if t else b -/
def wIfE (t : WT) (wa wb : WE) : WE := fun Z ρ R => t Z ρ fun c ρ1 => if c = true then wa Z ρ1 R else wb Z ρ1 R
theorem de_if {c : Expr} (hc : DT X G T c t) (ha : DE X G T a wa) (hb : DE X G T b wb) : DE X G T (.IfExp c a b pos) (wIfE t wa wb) :=
  pe_weak (pe_ifExp hc ha hb) fun σ H Q ⟨W, ρ, R, Z, ok, h, hR, hZ⟩ => lT_then ok h hZ fun c ρ1 W1 H1 hc g => by
    cases c with
    | true => exact lE_on g hc hR hZ
    | false => exact lE_on g hc hR hZ
/-- one operand -/
def wUn (f : D → (S → Prop) → Prop) (wa : WE) : WE := fun Z ρ R => wa Z ρ fun x ρ1 => f x.frz fun z => R z ρ1
def UnD (K : PySem.W.Frag) (r : V → Hp → VK → Prop) (f : D → (S → Prop) → Prop) : Prop :=
  ∀ (G : Gx) (W : Wd) (ρ : Rho) (σ : L2.St) (H : Hp) (d : D) (x : V) (R : S → Prop) (Q : VK), Ok K G W ρ σ H → Dn K W H d x → f d R →
    (∀ z W' v H', R z → Go K G σ ρ W H ρ W' H' → Res K H W' H' z v → Q v H') → r x H Q
theorem lE_un {K : PySem.W.Frag} {r : V → Hp → VK → Prop} {f : D → (S → Prop) → Prop} (ho : UnD K r f) {σ : L2.St} {H : Hp} {Q : VK} (h : lE K G T (wUn f wa) σ H Q) : lE K G T wa σ H fun x H1 => r x H1 Q := by
  obtain ⟨W, ρ, R, Z, ok, h, hR, hZ⟩ := h
  refine lE_then (R := fun x ρ1 => f x fun z => R z ρ1) ok h hZ fun d ρ1 W1 x H1 h1 g1 d1 => ?_
  exact ho G W1 ρ1 σ H1 d x _ Q g1.ok d1 h1 fun z W' v H' hz g r => hR z ρ1 W' v H' hz (g1.trans g) (r.up g1.stp.up)
def fNeg (d : D) (R : S → Prop) : Prop := match d with
  | .int i => R (.d (.int (-i)))
  | _ => False
theorem ud_neg {K : PySem.W.Frag} : UnD K (rU fun i => .int (-i)) fNeg := by
  intro G W ρ σ H d x R Q ok h f k
  cases h <;> first | exact f.elim | skip
  exact ⟨_, rfl, k _ _ _ _ f (.refl ok) (.of (.int _))⟩
/-! ### argument lists, displays -/
def wNil : WA := fun _ ρ R => R [] ρ
def wCons (w : WE) (u : WA) : WA := fun Z ρ R => w Z ρ fun x ρ1 => u Z ρ1 fun xs ρ2 => R (x.frz :: xs) ρ2
theorem da_nil : DA X G T [] wNil := pa_weak pa_nil fun σ H Q ⟨W, ρ, R, Z, ok, h, hR, hZ⟩ => hR _ _ _ _ _ h (.refl ok) .nil
theorem da_cons {es : List Expr} {u : WA} (ha : DE X G T a wa) (hr : DA X G T es u) (hs : starEach (a :: es) X.env = (false, eval a X.env) :: starEach es X.env := by rfl) : DA X G T (a :: es) (wCons wa u) :=
  pa_weak (pa_cons ha hr hs) fun σ H Q ⟨W, ρ, R, Z, ok, h, hR, hZ⟩ => by
    refine lE_then (R := fun x ρ1 => u Z ρ1 fun xs ρ2 => R (x :: xs) ρ2) ok h hZ fun d ρ1 W1 x H1 h1 g1 d1 => ?_
    exact ⟨W1, ρ1, _, Z, g1.ok, h1, fun ds ρ2 W2 xs H2 h2 g2 d2 => hR _ _ _ _ _ h2 (g1.trans g2) (.cons (d1.le g2.stp.le) d2), hZ.go g1⟩
def wTup (u : WA) : WE := fun Z ρ R => u Z ρ fun ds ρ1 => ds.length ≤ sizeLine ∧ R (.d (.tup ds)) ρ1
def wLst (u : WA) : WE := fun Z ρ R => u Z ρ fun ds ρ1 => ds.length ≤ sizeLine ∧ R (.own ds) ρ1
/-- a frozen new object -/
theorem Go.newF {K : PySem.W.Frag} {σ : L2.St} {ρ : Rho} {W : Wd} {H : Hp} {p : Addr} {o : HO} (ok : Ok K G W ρ σ H) (hp : H p = none) : Go K G σ ρ W H ρ (W.add p) (upd H p o) :=
  ok.grow0 (step_frz ok.al hp) (al_frz ok.al hp) rfl (cells_new ok.al hp)
theorem Go.new {K : PySem.W.Frag} {σ : L2.St} {ρ : Rho} {W : Wd} {H : Hp} {p : Addr} {o : HO} (ok : Ok K G W ρ σ H) (hp : H p = none) : Go K G σ ρ W H ρ W (upd H p o) :=
  ok.grow0 (step_new ok.al hp) (al_new ok.al hp) rfl (cells_new ok.al hp)
theorem res_tup {K : PySem.W.Frag} {σ : L2.St} {ρ : Rho} {W : Wd} {H : Hp} {p : Addr} {ds : List D} {xs : List V} (ok : Ok K G W ρ σ H) (hp : H p = none) (h : DnA K W H ds xs) : Dn K (W.add p) (upd H p (.tup xs)) (.tup ds) (.ref p) :=
  .tup (.inl ⟨.inr rfl, Rd.of upd_same⟩) (h.le (step_frz ok.al hp).le)
theorem res_own {K : PySem.W.Frag} {σ : L2.St} {ρ : Rho} {W : Wd} {H H0 : Hp} {p : Addr} {ds : List D} {xs : List V} (ok : Ok K G W ρ σ H) (hp : H p = none) (h0 : H0 p = none) (h : DnA K W H ds xs) : Res K H0 W (upd H p (.lst xs)) (.own ds) (.ref p) := by
  refine ⟨⟨p, xs, rfl, upd_same, h.le (step_new ok.al hp).le⟩, fun _ q e => ?_⟩
  cases e
  refine ⟨fun z => ?_, fun z => ?_, fun z => ?_, h0⟩
  · obtain ⟨o, e⟩ := ok.al.f p z; rw [hp] at e; cases e
  · obtain ⟨u, e⟩ := (ok.al.j p z).some; rw [hp] at e; cases e
  · obtain ⟨_, _, o, e⟩ := ok.al.c p z; rw [hp] at e; cases e
theorem de_tup {es : List Expr} {u : WA} {x1} (h : DA X G T es u) : DE X G T (.Tuple es x1 pos) (wTup u) :=
  pe_weak (pe_tup h) fun σ H Q ⟨W, ρ, R, Z, ok, h, hR, hZ⟩ => ⟨W, ρ, _, Z, ok, h, fun ds ρ1 W1 xs H1 ⟨hl, h1⟩ g d => ⟨by rw [← d.length]; exact hl, fun p hp => hR _ _ _ _ _ h1 (g.trans (.newF g.ok hp)) (.of (res_tup g.ok hp d))⟩, hZ⟩
theorem de_lst {es : List Expr} {u : WA} (h : DA X G T es u) : DE X G T (.List es pos) (wLst u) :=
  pe_weak (pe_lst h) fun σ H Q ⟨W, ρ, R, Z, ok, h, hR, hZ⟩ => ⟨W, ρ, _, Z, ok, h, fun ds ρ1 W1 xs H1 ⟨hl, h1⟩ g d => ⟨by rw [← d.length]; exact hl, fun p hp => hR _ _ _ _ _ h1 (g.trans (.new g.ok hp)) (res_own g.ok hp (g.stp.up p hp) d)⟩, hZ⟩
/-! ### calls of built-ins -/
def wCallB (f : List D → (S → Prop) → Prop) (u : WA) : WE := fun Z ρ R => u Z ρ fun ds ρ1 => f ds fun z => R z ρ1
def CaD (K : PySem.W.Frag) (r : List V → Hp → VK → Prop) (f : List D → (S → Prop) → Prop) : Prop :=
  ∀ (G : Gx) (W : Wd) (ρ : Rho) (σ : L2.St) (H : Hp) (ds : List D) (xs : List V) (R : S → Prop) (Q : VK), Ok K G W ρ σ H → DnA K W H ds xs → f ds R →
    (∀ z W' v H', R z → Go K G σ ρ W H ρ W' H' → Res K H W' H' z v → Q v H') → r xs H Q
theorem lE_callB {K : PySem.W.Frag} {r : List V → Hp → VK → Prop} {f : List D → (S → Prop) → Prop} {u : WA} (ho : CaD K r f) {σ : L2.St} {H : Hp} {Q : VK} (h : lE K G T (wCallB f u) σ H Q) : tCB r (lA K G T u) σ H Q := by
  obtain ⟨W, ρ, R, Z, ok, h, hR, hZ⟩ := h
  exact ⟨W, ρ, _, Z, ok, h, fun ds ρ1 W1 xs H1 h1 g d => ho G W1 ρ1 σ H1 ds xs _ Q g.ok d h1 fun z W' v H' hz g2 r => hR z ρ1 W' v H' hz (g.trans g2) (r.up g.stp.up), hZ⟩
theorem de_callB {x : Str} {id : String} {es : List Expr} {r : List V → Hp → VK → Prop} {f : List D → (S → Prop) → Prop} {u : WA} (hr : CallR X (.builtin id) r) (ho : CaD X.K r f) (hg : Gl X x) (hm : X.mg x = none) (hv : bootBuiltins x = some (.builtin id))
    (ha : DA X G T (e :: es) u) (hn : x ≠ "__name__" := by decide) (hdb : (x == ("__debug__" : Str)) = false := by decide)
    (he : starEach (e :: es) X.env = (false, eval e X.env) :: starEach es X.env := by rfl) (hpl : (backTo pos (starEach es X.env)).any (·.1) = false := by rfl) : DE X G T (.Call (.Name x p) (e :: es) [] pos) (wCallB f u) :=
  pe_weak (pe_callB hr hg hm hv ha hn hdb he hpl) fun _ _ _ h => lE_callB ho h
theorem de_callTy {x : Str} {n : String} {es : List Expr} {r : List V → Hp → VK → Prop} {f : List D → (S → Prop) → Prop} {u : WA} (hr : CallR X (.type n) r) (ho : CaD X.K r f) (hg : Gl X x) (hm : X.mg x = none) (hv : bootBuiltins x = some (.type n))
    (ha : DA X G T (e :: es) u) (hn : x ≠ "__name__" := by decide) (hdb : (x == ("__debug__" : Str)) = false := by decide)
    (he : starEach (e :: es) X.env = (false, eval e X.env) :: starEach es X.env := by rfl) (hpl : (backTo pos (starEach es X.env)).any (·.1) = false := by rfl) : DE X G T (.Call (.Name x p) (e :: es) [] pos) (wCallB f u) :=
  pe_weak (pe_callTy hr hg hm hv ha hn hdb he hpl) fun _ _ _ h => lE_callB ho h
end
end DL


/-! DL2: operators and built-ins over data. -/
namespace DL
open PySem PySem.Spec L2
/-! ### data that can be compared and shown -/
mutual
def D.py : D → PyData
  | .non => .none
  | .bl b => .bool b
  | .int i => .int i
  | .str s => .str s
  | .tup ds => .tuple (D.pys ds)
  | .lst ds => .list (D.pys ds)
  | .rls ds => .list (D.pys ds)
  | _ => .none
def D.pys : List D → List PyData
  | [] => []
  | d :: ds => d.py :: D.pys ds
end
mutual
def D.isPy : D → Bool
  | .non => true
  | .bl _ => true
  | .int _ => true
  | .str _ => true
  | .tup ds => D.arePy ds
  | .lst ds => D.arePy ds
  | .rls ds => D.arePy ds
  | _ => false
def D.arePy : List D → Bool
  | [] => true
  | d :: ds => d.isPy && D.arePy ds
end
def D.scl : D → Bool
  | .non => true | .bl _ => true | .int _ => true | .str _ => true | _ => false
/-- == may be asked -/
def D.okEq (d : D) : Bool := d.isPy && SeqAt.shaped d.py
def D.okSc : D → D → Bool
  | .bl _, .int _ => false | .int _, .bl _ => false | d, e => d.scl && e.scl
def D.cmpOk (d e : D) : Bool := D.okSc d e || (d.okEq && e.okEq)
def D.eqb (d e : D) : Bool := PyData.eqv d.py e.py
def fEq (d e : D) (R : S → Prop) : Prop := D.cmpOk d e = true ∧ R (.d (.bl (D.eqb d e)))
def fNe (d e : D) (R : S → Prop) : Prop := D.cmpOk d e = true ∧ R (.d (.bl (!D.eqb d e)))
section
variable {K : PySem.W.Frag} {W : Wd} {H : Hp}
mutual
theorem Dn.dp : ∀ {d : D} {x : V}, Dn K W H d x → d.isPy = true → Dp K H x d.py
  | _, _, .non, _ => .non
  | _, _, .bl b, _ => .bl b
  | _, _, .int i, _ => .int i
  | _, _, .str s, _ => .str s
  | _, _, .tup h1 h2, p => .tup h1.sq (h2.dps p)
  | _, _, .lst _ h1 h2, p => .lst (SqL.of h1) (h2.dps p)
  | _, _, .rls h1 h2, p => .lst h1.sq (h2.dps p)
  | _, _, .dic _ _ _, p => nomatch (show false = true from p)
  | _, _, .ins _ _ _ _, p => nomatch (show false = true from p)
  | _, _, .cell _, p => nomatch (show false = true from p)
  | _, _, .cls _, p => nomatch (show false = true from p)
  | _, _, .jar _ _, p => nomatch (show false = true from p)
  | _, _, .v _, p => nomatch (show false = true from p)
theorem DnA.dps : ∀ {d : List D} {x : List V}, DnA K W H d x → D.arePy d = true → DpAll K H x (D.pys d)
  | _, _, .nil, _ => .nil
  | _, _, .cons h1 h2, p => by
    have p' : (D.isPy _ && D.arePy _) = true := p
    rw [Bool.and_eq_true] at p'
    exact .cons (h1.dp p'.1) (h2.dps p'.2)
end
theorem scal_of {d e : D} {x y : V} (h : Dn K W H d x) (g : Dn K W H e y) (o : D.okSc d e = true) : scal x y = true ∧ decide (x = y) = D.eqb d e := by
  cases h <;> cases g <;> first | (cases o; done) | (refine ⟨rfl, ?_⟩; first | exact dec_int | exact dec_bl | exact dec_str | (simp [D.eqb, D.py, PyData.eqv]; done))
def rEqA (K : PySem.W.Frag) : R2 := fun x y H Q => rEq x y H Q ∨ rEqD K x y H Q
def rNeA (K : PySem.W.Frag) : R2 := fun x y H Q => rNe x y H Q ∨ rNeD K x y H Q
theorem or_eqA {X : Cx} (hu : X.A.units + 64 < cLine) : OpR X (compareOp .Eq) (rEqA X.K) := OpR.or op_eq (op_eqD hu)
theorem or_neA {X : Cx} (hu : X.A.units + 64 < cLine) : OpR X (compareOp .NotEq) (rNeA X.K) := OpR.or op_ne (op_neD hu)
theorem od_eq : OpD K (rEqA K) fEq := by
  intro G W ρ σ H d e x y R Q ok h g ⟨f, r⟩ k
  rcases Bool.or_eq_true _ _ |>.mp f with o | o
  · obtain ⟨a, b⟩ := scal_of h g o
    exact .inl ⟨a, by rw [b]; exact k _ _ _ _ r (.refl ok) (.of (.bl _))⟩
  · simp only [D.okEq, Bool.and_eq_true] at o
    exact .inr ⟨_, _, h.dp o.1.1, g.dp o.2.1, o.1.2, o.2.2, k _ _ _ _ r (.refl ok) (.of (.bl _))⟩
theorem od_ne : OpD K (rNeA K) fNe := by
  intro G W ρ σ H d e x y R Q ok h g ⟨f, r⟩ k
  rcases Bool.or_eq_true _ _ |>.mp f with o | o
  · obtain ⟨a, b⟩ := scal_of h g o
    exact .inl ⟨a, by rw [b]; exact k _ _ _ _ r (.refl ok) (.of (.bl _))⟩
  · simp only [D.okEq, Bool.and_eq_true] at o
    exact .inr ⟨_, _, h.dp o.1.1, g.dp o.2.1, o.1.2, o.2.2, k _ _ _ _ r (.refl ok) (.of (.bl _))⟩
/-! ### order, is None, in -/
def fI2 (g : Int → Int → D) (d e : D) (R : S → Prop) : Prop := match d, e with
  | .int i, .int j => R (.d (g i j))
  | _, _ => False
theorem od_i2 {g : Int → Int → V} {g' : Int → Int → D} (hg : ∀ W H i j, Dn K W H (g' i j) (g i j)) : OpD K (rI0 g) (fI2 g') := by
  intro G W ρ σ H d e x y R Q ok h h' f k
  cases h <;> first | exact f.elim | skip
  cases h' <;> first | exact f.elim | skip
  exact ⟨_, _, rfl, rfl, k _ _ _ _ f (.refl ok) (.of (hg _ _ _ _))⟩
abbrev fLt := fI2 fun i j => .bl (decide (i < j))
abbrev fLe := fI2 fun i j => .bl (decide (i ≤ j))
abbrev fGt := fI2 fun i j => .bl (decide (j < i))
abbrev fGe := fI2 fun i j => .bl (decide (j ≤ i))
theorem od_lt : OpD K (rI0 fun i j => .bl (decide (i < j))) fLt := od_i2 fun _ _ _ _ => .bl _
theorem od_le : OpD K (rI0 fun i j => .bl (decide (i ≤ j))) fLe := od_i2 fun _ _ _ _ => .bl _
theorem od_gt : OpD K (rI0 fun i j => .bl (decide (j < i))) fGt := od_i2 fun _ _ _ _ => .bl _
theorem od_ge : OpD K (rI0 fun i j => .bl (decide (j ≤ i))) fGe := od_i2 fun _ _ _ _ => .bl _
def D.isNon (d : D) (R : Bool → Prop) : Prop := match d with
  | .non => R true
  | .v _ => False
  | _ => R false
end
section
variable {X : Cx} {G : Gx} {T : WX} {a b : Expr} {wa : WE} {pos : Pos}
theorem dn_non {K : PySem.W.Frag} {W : Wd} {H : Hp} {d : D} {x : V} (h : Dn K W H d x) {R : Bool → Prop} (f : d.isNon R) : R (decide (x = .non)) := by
  cases h <;> first | exact f.elim | exact f
end
/-! ### arithmetic -/
def fAdd (d e : D) (R : S → Prop) : Prop := match d, e with
  | .int i, .int j => R (.d (.int (i + j)))
  | .str i, .str j => i.length + j.length ≤ sizeLine ∧ R (.d (.str (i ++ j)))
  | .tup i, .tup j => i.length + j.length ≤ sizeLine ∧ R (.d (.tup (i ++ j)))
  | .lst i, .lst j => i.length + j.length ≤ sizeLine ∧ R (.own (i ++ j))
  | _, _ => False
abbrev rAddI : R2 := rI0 fun i j => .int (i + j)
abbrev rAddS : R2 := fun x y H Q => ∃ i j, x = .str i ∧ y = .str j ∧ i.length + j.length ≤ sizeLine ∧ Q (.str (i ++ j)) H
def rAddA (K : PySem.W.Frag) : R2 := fun x y H Q => ((rAddI x y H Q ∨ rAddS x y H Q) ∨ rCatA K x y H Q) ∨ rCat x y H Q
section
variable {K : PySem.W.Frag}
theorem or_add {X : Cx} : OpR X (binaryOp .Add) (rAddA X.K) := ((op_add.or op_add_str).or op_catA).or op_cat
theorem od_add : OpD K (rAddA K) fAdd := by
  intro G W ρ σ H d e x y R Q ok h h' f k
  cases h with
  | int i => cases h' with
    | int j => exact .inl (.inl (.inl ⟨_, _, rfl, rfl, k _ _ _ _ f (.refl ok) (.of (.int _))⟩))
    | _ => exact f.elim
  | str i => cases h' with
    | str j => exact .inl (.inl (.inr ⟨_, _, rfl, rfl, f.1, k _ _ _ _ f.2 (.refl ok) (.of (.str _))⟩))
    | _ => exact f.elim
  | tup h1 h2 => cases h' with
    | tup g1 g2 =>
      refine .inl (.inr ⟨_, _, _, _, rfl, rfl, h1.sq, g1.sq, by rw [← h2.length, ← g2.length]; exact f.1, fun q => ?_, fun _ q => ?_, fun _ _ p hp => ?_⟩)
      · subst q; cases h2
        exact k _ _ _ _ f.2 (.refl ok) (.of (.tup g1 g2))
      · subst q; cases g2
        refine k _ _ _ _ f.2 (.refl ok) (.of ?_)
        rw [List.append_nil]; exact .tup h1 h2
      · exact k _ _ _ _ f.2 (.newF ok hp) (.of (res_tup ok hp (h2.append g2)))
    | _ => exact f.elim
  | lst h0 h1 h2 => cases h' with
    | lst g0 g1 g2 =>
      exact .inr ⟨_, _, _, _, rfl, rfl, h1, g1, by rw [← h2.length, ← g2.length]; exact f.1, fun p hp => k _ _ _ _ f.2 (.new ok hp) (res_own ok hp hp (h2.append g2))⟩
    | _ => exact f.elim
  | _ => exact f.elim
def fSub := fI2 fun i j => .int (i - j)
theorem od_sub : OpD K (rI0 fun i j => .int (i - j)) fSub := od_i2 fun _ _ _ _ => .int _
def MulOk (i j : Int) : Prop := CMul i j ∨ CMulW i j
def fMul (d e : D) (R : S → Prop) : Prop := match d, e with
  | .int i, .int j => MulOk i j ∧ R (.d (.int (i * j)))
  | .lst i, .int j => (-(2 ^ 63) ≤ j ∧ j < 2 ^ 63) ∧ i.length * j.toNat ≤ sizeLine ∧ R (.own (List.replicate j.toNat i).flatten)
  | .tup i, .int j => i ≠ [] ∧ (2 ≤ j ∧ j ≤ 1000) ∧ i.length ≤ 1000 ∧ R (.d (.tup (List.replicate j.toNat i).flatten))
  | _, _ => False
def rMulA (K : PySem.W.Frag) : R2 := fun x y H Q => (((rI CMul fun i j => .int (i * j)) x y H Q ∨ (rI CMulW fun i j => .int (i * j)) x y H Q) ∨ rRep x y H Q) ∨ rRepT K x y H Q
theorem or_mul {X : Cx} : OpR X (binaryOp .Mult) (rMulA X.K) := ((op_mul.or op_mulW).or op_rep).or op_repT
theorem DnA.rep {W : Wd} {H : Hp} {ds : List D} {xs : List V} (h : DnA K W H ds xs) : ∀ n : Nat, DnA K W H (List.replicate n ds).flatten (List.replicate n xs).flatten
  | 0 => .nil
  | n + 1 => by
    rw [List.replicate_succ, List.replicate_succ, List.flatten_cons, List.flatten_cons]
    exact h.append (h.rep n)
theorem od_mul : OpD K (rMulA K) fMul := by
  intro G W ρ σ H d e x y R Q ok h h' f k
  cases h with
  | int i => cases h' with
    | int j =>
      rcases f with ⟨c | c, f⟩
      · exact .inl (.inl (.inl ⟨_, _, rfl, rfl, c, k _ _ _ _ f (.refl ok) (.of (.int _))⟩))
      · exact .inl (.inl (.inr ⟨_, _, rfl, rfl, c, k _ _ _ _ f (.refl ok) (.of (.int _))⟩))
    | _ => exact f.elim
  | lst h0 h1 h2 => cases h' with
    | int j => exact .inl (.inr ⟨_, _, _, rfl, rfl, h1, f.1.1, f.1.2, by rw [← h2.length]; exact f.2.1, fun p hp => k _ _ _ _ f.2.2 (.new ok hp) (res_own ok hp hp (h2.rep _))⟩)
    | _ => exact f.elim
  | tup h1 h2 => cases h' with
    | int j =>
      obtain ⟨f1, f2, f3, f4⟩ := f
      refine .inr ⟨_, _, _, rfl, rfl, h1.sq, fun q => ?_, f2.1, f2.2, by rw [← h2.length]; exact f3, fun p hp => k _ _ _ _ f4 (.newF ok hp) (.of (res_tup ok hp (h2.rep _)))⟩
      subst q; cases h2; exact f1 rfl
    | _ => exact f.elim
  | _ => exact f.elim
def DivOk (i j : Int) : Prop := CDivN i j ∨ CDivW i j
def fDiv (d e : D) (R : S → Prop) : Prop := match d, e with
  | .int i, .int j => DivOk i j ∧ R (.d (.int (i.fdiv j)))
  | _, _ => False
def rDivA : R2 := fun x y H Q => (rI CDivN fun i j => .int (i.fdiv j)) x y H Q ∨ (rI CDivW fun i j => .int (i / j)) x y H Q
theorem or_div {X : Cx} : OpR X (binaryOp .FloorDiv) rDivA := op_fdivN.or op_fdivW
theorem od_div : OpD K rDivA fDiv := by
  intro G W ρ σ H d e x y R Q ok h h' f k
  cases h with
  | int i => cases h' with
    | int j =>
      rcases f with ⟨c | c, f⟩
      · exact .inl ⟨_, _, rfl, rfl, c, k _ _ _ _ f (.refl ok) (.of (.int _))⟩
      · refine .inr ⟨_, _, rfl, rfl, c, k _ _ _ _ f (.refl ok) (.of ?_)⟩
        rw [Int.fdiv_eq_ediv_of_nonneg _ (Int.le_of_lt c.1)]
        exact .int _
    | _ => exact f.elim
  | _ => exact f.elim
def fMod (d e : D) (R : S → Prop) : Prop := match d, e with
  | .int i, .int j => j ≠ 0 ∧ R (.d (.int (i.fmod j)))
  | _, _ => False
theorem od_mod : OpD K (rI (fun _ j => j ≠ 0) fun i j => .int (i.fmod j)) fMod := by
  intro G W ρ σ H d e x y R Q ok h h' f k
  cases h with
  | int i => cases h' with
    | int j => exact ⟨_, _, rfl, rfl, f.1, k _ _ _ _ f.2 (.refl ok) (.of (.int _))⟩
    | _ => exact f.elim
  | _ => exact f.elim
def fPow (d e : D) (R : S → Prop) : Prop := match d, e with
  | .int i, .int j => CPow i j ∧ R (.d (.int (i ^ j.toNat)))
  | _, _ => False
theorem od_pow : OpD K (rI CPow fun i j => .int (i ^ j.toNat)) fPow := by
  intro G W ρ σ H d e x y R Q ok h h' f k
  cases h with
  | int i => cases h' with
    | int j => exact ⟨_, _, rfl, rfl, f.1, k _ _ _ _ f.2 (.refl ok) (.of (.int _))⟩
    | _ => exact f.elim
  | _ => exact f.elim
/-! ### in -/
def D.items : D → Option (List D)
  | .tup ds => some ds
  | .lst ds => some ds
  | .rls ds => some ds
  | _ => none
theorem Dn.seq {W : Wd} {H : Hp} {d : D} {x : V} {ds : List D} (h : Dn K W H d x) (e : d.items = some ds) : ∃ p vs, x = .ref p ∧ (SqL K H p vs ∨ SqT K H p vs) ∧ DnA K W H ds vs := by
  cases h <;> first | (cases e; done) | skip
  · cases e; exact ⟨_, _, rfl, .inr (SeqT.sq ‹_›), ‹_›⟩
  · cases e; exact ⟨_, _, rfl, .inl (SqL.of ‹_›), ‹_›⟩
  · cases e; exact ⟨_, _, rfl, .inl (SeqL.sq ‹_›), ‹_›⟩
/-- x in a list or tuple of flat things -/
def fIn (d e : D) (R : S → Prop) : Prop := ∃ ds, e.items = some ds ∧ d.scl = true ∧ ds.all D.scl = true ∧ R (.d (.bl (ds.any fun z => D.eqb z d)))
def fNin (d e : D) (R : S → Prop) : Prop := ∃ ds, e.items = some ds ∧ d.scl = true ∧ ds.all D.scl = true ∧ R (.d (.bl (!ds.any fun z => D.eqb z d)))
theorem Dn.flat {W : Wd} {H : Hp} {d : D} {x : V} (h : Dn K W H d x) (e : d.scl = true) : flatV x = true := by
  cases h <;> first | rfl | cases e
theorem DnA.flat {W : Wd} {H : Hp} : ∀ {d : List D} {x : List V}, DnA K W H d x → d.all D.scl = true → x.all flatV = true
  | _, _, .nil, _ => rfl
  | _, _, .cons h1 h2, e => by
    rw [List.all_cons, Bool.and_eq_true] at e ⊢
    exact ⟨h1.flat e.1, h2.flat e.2⟩
theorem Dn.eqV {W : Wd} {H : Hp} {d e : D} {x y : V} (h : Dn K W H d x) (g : Dn K W H e y) (o : d.scl = true) (q : e.scl = true) : eqV x y = D.eqb d e := by
  cases h <;> cases g <;> first | (cases o; done) | (cases q; done) | (simp [D.eqb, D.py, PyData.eqv, L2.eqV]; done)
theorem DnA.inV {W : Wd} {H : Hp} {d : D} {x : V} (h : Dn K W H d x) (o : d.scl = true) : ∀ {ds : List D} {xs : List V}, DnA K W H ds xs → ds.all D.scl = true → inV x xs = ds.any fun z => D.eqb z d
  | _, _, .nil, _ => rfl
  | _, _, .cons h1 h2, e => by
    rw [List.all_cons, Bool.and_eq_true] at e
    have ih := DnA.inV h o h2 e.2
    unfold L2.inV at ih ⊢
    rw [List.any_cons, List.any_cons, h1.eqV h e.1 o, ih]
theorem od_in : OpD K (rIn K false) fIn := by
  intro G W ρ σ H d e x y R Q ok h h' ⟨ds, f1, f2, f3, f4⟩ k
  obtain ⟨p, vs, rfl, s, a⟩ := h'.seq f1
  refine ⟨p, vs, rfl, s, h.flat f2, a.flat f3, ?_⟩
  simp only [if_neg Bool.false_ne_true]
  rw [DnA.inV h f2 a f3]
  exact k _ _ _ _ f4 (.refl ok) (.of (.bl _))
theorem od_nin : OpD K (rIn K true) fNin := by
  intro G W ρ σ H d e x y R Q ok h h' ⟨ds, f1, f2, f3, f4⟩ k
  obtain ⟨p, vs, rfl, s, a⟩ := h'.seq f1
  refine ⟨p, vs, rfl, s, h.flat f2, a.flat f3, ?_⟩
  simp only [if_true]
  rw [DnA.inV h f2 a f3]
  exact k _ _ _ _ f4 (.refl ok) (.of (.bl _))
/-! ### xs[i], t[i], s[i] -/
def fIx (d e : D) (R : S → Prop) : Prop := match d, e with
  | .str s, .int i => ∃ c, s.length ≤ sizeLine ∧ atI s.cps.toList i = some c ∧ R (.d (.str ⟨#[c]⟩))
  | .jar, .int i => (i = 0 ∨ i = 1 ∨ i = 2) ∧ ∀ n : Int, (i = 1 → -(2 ^ 40) < n ∧ n < 2 ^ 40) → R (.d (.int n))
  | d, .int i => ∃ ds x, d.items = some ds ∧ atI ds i = some x ∧ R (.d x)
  | _, _ => False
theorem DnA.atI {W : Wd} {H : Hp} {ds : List D} {xs : List V} {i : Int} {d : D} (h : DnA K W H ds xs) (e : atI ds i = some d) : ∃ x, L2.atI xs i = some x ∧ Dn K W H d x := by
  unfold L2.atI at e ⊢
  rw [← h.length]
  cases q : ixN ds.length i with
  | none => rw [q] at e; cases e
  | some j =>
    rw [q] at e
    exact h.get e
theorem fix_items {d : D} {i : Int} {R : S → Prop} (f : fIx d (.int i) R) (n : ∀ s, d ≠ .str s) (n' : d ≠ .jar) : ∃ ds x, d.items = some ds ∧ L2.atI ds i = some x ∧ R (.d x) := by
  cases d <;> first | exact f | exact absurd rfl (n _) | exact absurd rfl n'
end
section
variable {X : Cx} {G : Gx} {T : WX} {a b : Expr} {wa wb : WE} {pos : Pos}
theorem od_ix {K : PySem.W.Frag} : OpD K (rIx K) fIx := by
  intro G W ρ σ H d e x y R Q ok h h' f k
  cases h' with
  | int i =>
    by_cases hs : ∃ s, d = .str s
    · obtain ⟨s, rfl⟩ := hs
      cases h
      obtain ⟨c, f1, f2, f3⟩ := f
      exact .inr (.inr ⟨s, i, c, rfl, rfl, f1, f2, k _ _ _ _ f3 (.refl ok) (.of (.str _))⟩)
    · by_cases hj : d = .jar
      · subst hj
        cases h
        rename_i a ja jn
        obtain ⟨p, q, r, e, b1, b2⟩ := (ok.al.j a ja).jar jn
        obtain ⟨f1, f2⟩ := f
        refine .inl ⟨a, [.int p, .int q, .int r], i, .int (if i = 0 then p else if i = 1 then q else r), rfl, rfl, SqL.of e, ?_, k _ _ _ _ (f2 _ fun e1 => ?_) (.refl ok) (.of (.int _))⟩
        · rcases f1 with rfl | rfl | rfl <;> rfl
        · subst e1; exact ⟨b1, b2⟩
      obtain ⟨ds, z, f1, f2, f3⟩ := fix_items f (fun s q => hs ⟨s, q⟩) hj
      obtain ⟨p, vs, rfl, s, a⟩ := h.seq f1
      obtain ⟨v, e1, e2⟩ := a.atI f2
      have q := k _ _ _ _ f3 (.refl ok) (.of e2)
      rcases s with s | s
      · exact .inl ⟨_, _, _, _, rfl, rfl, s, e1, q⟩
      · exact .inr (.inl ⟨_, _, _, _, rfl, rfl, s, e1, q⟩)
  | _ => exact (by cases d <;> exact f.elim)
end
/-! ### built-ins -/
section
variable {K : PySem.W.Frag}
def fLen (ds : List D) (R : S → Prop) : Prop := match ds with
  | [.str s] => s.length ≤ sizeLine ∧ R (.d (.int s.length))
  | [d] => ∃ es, d.items = some es ∧ R (.d (.int es.length))
  | _ => False
theorem flen_items {d : D} {R : S → Prop} (f : fLen [d] R) (n : ∀ s, d ≠ .str s) : ∃ ds, d.items = some ds ∧ R (.d (.int ds.length)) := by
  cases d <;> first | exact f | exact absurd rfl (n _)
theorem dna1 {W : Wd} {H : Hp} {ds : List D} {xs : List V} (h : DnA K W H ds xs) (e : ds.length = 1) : ∃ d x, ds = [d] ∧ xs = [x] ∧ Dn K W H d x := by
  match ds, e, h with
  | [d], _, .cons h1 .nil => exact ⟨_, _, rfl, rfl, h1⟩
theorem flen1 {ds : List D} {R : S → Prop} (f : fLen ds R) : ds.length = 1 := by
  match ds, f with
  | [d], _ => rfl
  | [], f => exact f.elim
  | a :: _ :: _, f => cases a <;> exact f.elim
theorem cd_len : CaD K (fun xs H Q => ∃ x n, xs = [x] ∧ LenV K x H n ∧ Q (.int n) H) fLen := by
  intro G W ρ σ H ds xs R Q ok h f k
  obtain ⟨d, x, rfl, rfl, h1⟩ := dna1 h (flen1 f)
  by_cases hs : ∃ s, d = .str s
  · obtain ⟨s, rfl⟩ := hs
    cases h1
    exact ⟨_, _, rfl, ⟨f.1, rfl⟩, k _ _ _ _ f.2 (.refl ok) (.of (.int _))⟩
  · obtain ⟨es, e1, e2⟩ := flen_items f fun s q => hs ⟨s, q⟩
    obtain ⟨p, vs, rfl, s, a⟩ := h1.seq e1
    refine ⟨.ref p, es.length, rfl, ?_, k _ _ _ _ e2 (.refl ok) (.of (.int _))⟩
    rcases s with s | s
    · exact .inl ⟨_, s, a.length⟩
    · exact .inr ⟨_, s, a.length⟩
def fTuple (ds : List D) (R : S → Prop) : Prop := match ds with
  | [d] => ∃ es, d.items = some es ∧ R (.d (.tup es))
  | _ => False
theorem cd_tuple : CaD K (fun xs H Q => ∃ p ys, xs = [.ref p] ∧ ((SqL K H p ys ∧ ∀ l, H l = none → Q (.ref l) (upd H l (.tup ys))) ∨ (SqT K H p ys ∧ Q (.ref p) H))) fTuple := by
  intro G W ρ σ H ds xs R Q ok h f k
  match ds, h, f with
  | [d], .cons (x := x) h1 .nil, f =>
    obtain ⟨es, e1, e2⟩ := f
    cases h1 <;> first | (cases e1; done) | skip
    · cases e1
      exact ⟨_, _, rfl, .inr ⟨SeqT.sq ‹_›, k _ _ _ _ e2 (.refl ok) (.of (.tup ‹_› ‹_›))⟩⟩
    · cases e1
      exact ⟨_, _, rfl, .inl ⟨SqL.of ‹_›, fun l hl => k _ _ _ _ e2 (.newF ok hl) (.of (res_tup ok hl ‹_›))⟩⟩
    · cases e1
      exact ⟨_, _, rfl, .inl ⟨SeqL.sq ‹_›, fun l hl => k _ _ _ _ e2 (.newF ok hl) (.of (res_tup ok hl ‹_›))⟩⟩
def fList (ds : List D) (R : S → Prop) : Prop := match ds with
  | [d] => ∃ es, d.items = some es ∧ R (.own es)
  | _ => False
theorem cd_list : CaD K (fun xs H Q => ∃ p ys, xs = [.ref p] ∧ (SqL K H p ys ∨ SqT K H p ys) ∧ ∀ l, H l = none → Q (.ref l) (upd H l (.lst ys))) fList := by
  intro G W ρ σ H ds xs R Q ok h f k
  match ds, h, f with
  | [d], .cons (x := x) h1 .nil, f =>
    obtain ⟨es, e1, e2⟩ := f
    obtain ⟨p, vs, rfl, s, a⟩ := h1.seq e1
    exact ⟨_, _, rfl, s, fun l hl => k _ _ _ _ e2 (.new ok hl) (res_own ok hl hl a)⟩
def fAbs (ds : List D) (R : S → Prop) : Prop := match ds with
  | [.int i] => R (.d (.int (if i < 0 then -i else i)))
  | _ => False
theorem cd_abs : CaD K (fun xs H Q => ∃ i, xs = [.int i] ∧ Q (.int (if i < 0 then -i else i)) H) fAbs := by
  intro G W ρ σ H ds xs R Q ok h f k
  match ds, h, f with
  | [.int i], .cons (.int _) .nil, f => exact ⟨_, rfl, k _ _ _ _ f (.refl ok) (.of (.int _))⟩
def fMax2 (ds : List D) (R : S → Prop) : Prop := match ds with
  | [.int i, .int j] => R (.d (.int (if j > i then j else i)))
  | _ => False
def fMin2 (ds : List D) (R : S → Prop) : Prop := match ds with
  | [.int i, .int j] => R (.d (.int (if j < i then j else i)))
  | _ => False
theorem cd_max2 : CaD K (fun xs H Q => ∃ i j, xs = [.int i, .int j] ∧ Q (.int (if j > i then j else i)) H) fMax2 := by
  intro G W ρ σ H ds xs R Q ok h f k
  match ds, h, f with
  | [.int i, .int j], .cons (.int _) (.cons (.int _) .nil), f => exact ⟨_, _, rfl, k _ _ _ _ f (.refl ok) (.of (.int _))⟩
theorem cd_min2 : CaD K (fun xs H Q => ∃ i j, xs = [.int i, .int j] ∧ Q (.int (if j < i then j else i)) H) fMin2 := by
  intro G W ρ σ H ds xs R Q ok h f k
  match ds, h, f with
  | [.int i, .int j], .cons (.int _) (.cons (.int _) .nil), f => exact ⟨_, _, rfl, k _ _ _ _ f (.refl ok) (.of (.int _))⟩
def fInt (ds : List D) (R : S → Prop) : Prop := match ds with
  | [.int i] => R (.d (.int i))
  | [.bl k] => R (.d (.int (if k then 1 else 0)))
  | _ => False
theorem cd_int : CaD K (fun xs H Q => (∃ i, xs = [.int i] ∧ Q (.int i) H) ∨ ∃ k, xs = [.bl k] ∧ Q (.int (if k then 1 else 0)) H) fInt := by
  intro G W ρ σ H ds xs R Q ok h f k
  match ds, h, f with
  | [.int i], .cons (.int _) .nil, f => exact .inl ⟨_, rfl, k _ _ _ _ f (.refl ok) (.of (.int _))⟩
  | [.bl i], .cons (.bl _) .nil, f => exact .inr ⟨_, rfl, k _ _ _ _ f (.refl ok) (.of (.int _))⟩
/-- of a list of ints, of bools -/
def fInts (g : List Int → (S → Prop) → Prop) (ds : List D) (R : S → Prop) : Prop := ∃ ns : List Int, (ds = [.lst (ns.map .int)] ∨ ds = [.rls (ns.map .int)]) ∧ g ns R
theorem DnA.ints1 {W : Wd} {H : Hp} {ds : List D} {xs : List V} {ns : List Int} (h : DnA K W H ds xs) (e : ds = [.lst (ns.map .int)] ∨ ds = [.rls (ns.map .int)]) : ∃ a, xs = [.ref a] ∧ SqL K H a (ns.map V.int) := by
  rcases e with rfl | rfl
  · match h with
    | .cons (.lst h0 h1 h2) .nil => rw [h2.map_int] at h1; exact ⟨_, rfl, SqL.of h1⟩
  · match h with
    | .cons (.rls h1 h2) .nil => rw [h2.map_int] at h1; exact ⟨_, rfl, h1.sq⟩
def fMaxL := fInts fun ns R => 0 < ns.length ∧ ∀ m, m ∈ ns → (∀ y, y ∈ ns → y ≤ m) → R (.d (.int m))
def fMinL := fInts fun ns R => 0 < ns.length ∧ ∀ m, m ∈ ns → (∀ y, y ∈ ns → m ≤ y) → R (.d (.int m))
theorem cd_maxL : CaD K (L2.rMax K) fMaxL := by
  intro G W ρ σ H ds xs R Q ok h ⟨ns, e, f1, f⟩ k
  obtain ⟨a, rfl, s⟩ := h.ints1 e
  exact ⟨a, ns, rfl, s, f1, fun m h1 h2 => k _ _ _ _ (f m h1 h2) (.refl ok) (.of (.int _))⟩
theorem cd_minL : CaD K (L2.rMin K) fMinL := by
  intro G W ρ σ H ds xs R Q ok h ⟨ns, e, f1, f⟩ k
  obtain ⟨a, rfl, s⟩ := h.ints1 e
  exact ⟨a, ns, rfl, s, f1, fun m h1 h2 => k _ _ _ _ (f m h1 h2) (.refl ok) (.of (.int _))⟩
def fSorted := fInts fun ns R => ∀ ns' : List Int, ns'.Perm ns → ns'.Pairwise (· ≤ ·) → R (.own (ns'.map .int))
theorem cd_sorted : CaD K (rSortedI K) fSorted := by
  intro G W ρ σ H ds xs R Q ok h ⟨ns, e, f⟩ k
  obtain ⟨a, rfl, s⟩ := h.ints1 e
  exact ⟨a, ns, rfl, s, fun ns' p h1 h2 hp => k _ _ _ _ (f ns' h1 h2) (.new ok hp) (res_own ok hp hp (.of_int ns'))⟩
def fAll (ds : List D) (R : S → Prop) : Prop := ∃ bs : List Bool, ds = [.lst (bs.map .bl)] ∧ R (.d (.bl (bs.all id)))
def fAny (ds : List D) (R : S → Prop) : Prop := ∃ bs : List Bool, ds = [.lst (bs.map .bl)] ∧ R (.d (.bl (bs.any id)))
theorem DnA.bls1 {W : Wd} {H : Hp} {xs : List V} {ns : List Bool} (h : DnA K W H [.lst (ns.map .bl)] xs) : ∃ a, xs = [.ref a] ∧ SqL K H a (ns.map V.bl) := by
  match h with
  | .cons (.lst h0 h1 h2) .nil => rw [h2.map_bl] at h1; exact ⟨_, rfl, SqL.of h1⟩
theorem cd_all : CaD K (rAll K) fAll := by
  intro G W ρ σ H ds xs R Q ok h ⟨ns, e, f⟩ k
  subst e
  obtain ⟨a, rfl, s⟩ := h.bls1
  exact ⟨a, ns, rfl, s, k _ _ _ _ f (.refl ok) (.of (.bl _))⟩
/-! ### repr -/
def rRepr (K : PySem.W.Frag) : List V → Hp → VK → Prop := fun xs H Q => ∃ x d, xs = [x] ∧ Dp K H x d ∧ d.showable = true ∧ d.hasDict = false ∧ d.depth ≤ 60 ∧ d.shown.length ≤ sizeLine ∧ Q (.str d.shown) H
theorem cr_repr {X : Cx} (hg : X.A.guards = some []) (hu : X.A.units + 64 < cLine) : CallR X (.builtin "repr") (rRepr X.K) := by
  intro pins s σ H xs us Q I r ⟨x, d, e, hp, h1, h2, h3, h4, q⟩
  subst e
  obtain ⟨u, rfl, ru⟩ := vals1 r
  obtain ⟨as, rd⟩ := Dp.reads I d x u hp ru
  have fin : ∀ (h' : Heap) (t : Tok) (tk : Nat), (∀ b o, s.heap.get? b = some o → h'.get? b = some o) → EP X pins σ Q (.str d.shown t) { s with heap := h', toks := tk } := fun h' t tk k => ⟨.str d.shown, H, I.kept k, ⟨t, rfl⟩, q⟩
  cases hp with
  | non => obtain rfl := ru; exact PySem.P.repr_of_none (fin s.heap _ _ fun _ _ e => e)
  | bl b => obtain rfl := ru; exact PySem.P.repr_of_bool (fin s.heap _ _ fun _ _ e => e)
  | int i =>
    obtain ⟨t, rfl⟩ := ru
    refine PySem.P.repr_of_int (by simpa [PyData.showable] using h1) (fin s.heap _ _ fun _ _ e => e)
  | str z => obtain ⟨t, rfl⟩ := ru; exact PySem.P.repr_of_str (fin s.heap _ _ fun _ _ e => e) h4
  | lst h h' => obtain rfl := ru; exact PySem.repr_of_reads' rd h1 (PySem.PyData.noDict_hsm h2) hg (by omega) (fun _ _ e => e) (fun h' u tk k => fin h' u tk k) h4
  | tup h h' => obtain rfl := ru; exact PySem.repr_of_reads' rd h1 (PySem.PyData.noDict_hsm h2) hg (by omega) (fun _ _ e => e) (fun h' u tk k => fin h' u tk k) h4
mutual
theorem py_noDict : ∀ d : D, d.py.hasDict = false
  | .non => rfl | .bl _ => rfl | .int _ => rfl | .str _ => rfl | .jar => rfl | .v _ => rfl | .dic _ => rfl | .ins _ _ => rfl | .cell _ => rfl | .cls _ => rfl | .exc _ _ => rfl
  | .tup ds => pys_noDict ds
  | .lst ds => pys_noDict ds
  | .rls ds => pys_noDict ds
theorem pys_noDict : ∀ ds : List D, PyData.hasDictAll (D.pys ds) = false
  | [] => rfl
  | d :: ds => by
    show (PyData.hasDict d.py || PyData.hasDictAll (D.pys ds)) = false
    rw [py_noDict d, pys_noDict ds]; rfl
end
def D.okRepr (d : D) : Prop := d.isPy = true ∧ d.py.showable = true ∧ d.py.depth ≤ 60 ∧ d.py.shown.length ≤ sizeLine
def fRepr (ds : List D) (R : S → Prop) : Prop := match ds with
  | [d] => d.okRepr ∧ R (.d (.str d.py.shown))
  | _ => False
theorem cd_repr : CaD K (rRepr K) fRepr := by
  intro G W ρ σ H ds xs R Q ok h f k
  match ds, h, f with
  | [d], .cons (x := x) h1 .nil, ⟨⟨f1, f2, f3, f4⟩, f⟩ =>
    exact ⟨x, d.py, rfl, h1.dp f1, f2, py_noDict d, f3, f4, k _ _ _ _ f (.refl ok) (.of (.str _))⟩
/-! ### isinstance with a built-in class -/
def D.tyName : D → Option String
  | .non => some "NoneType"
  | .bl _ => some "bool"
  | .int _ => some "int"
  | .str _ => some "str"
  | .tup _ => some "tuple"
  | .lst _ => some "list"
  | .rls _ => some "list"
  | .dic _ => some "dict"
  | _ => none
def fIsi (ds : List D) (R : S → Prop) : Prop := match ds with
  | [d, .v (.ty n)] => ∃ t b, d.tyName = some t ∧ kitB t n = some b ∧ R (.d (.bl b))
  | _ => False
theorem SeqT.ty {W : Wd} {H : Hp} {a : Addr} {xs : List V} (h : SeqT K W H a xs) : TyX K H (.ref a) (.type "tuple") := by
  rcases h with ⟨_, h | ⟨o, h⟩⟩ | ⟨o, its, n, h1, h2, _⟩
  · exact .base (.tup h)
  · exact .fTuple h
  · exact .kTuple h1 h2
theorem SeqL.ty {W : Wd} {H : Hp} {a : Addr} {xs : List V} (h : SeqL K W H a xs) : TyX K H (.ref a) (.type "list") := by
  rcases h with ⟨_, h | ⟨o, h⟩⟩ | ⟨o, its, n, h1, h2, _⟩
  · exact .base (.lst h)
  · exact .base (.frz h)
  · exact .kList h1 h2
theorem Dn.ty {W : Wd} {H : Hp} {d : D} {x : V} {t : String} (h : Dn K W H d x) (e : d.tyName = some t) : TyX K H x (.type t) := by
  cases h <;> first | (cases e; done) | skip
  · cases e; exact .base .non
  · cases e; exact .base (.bl _)
  · cases e; exact .base (.int _)
  · cases e; exact .base (.str _)
  · cases e; exact SeqT.ty ‹_›
  · cases e; exact .base (.lst ‹_›)
  · cases e; exact SeqL.ty ‹_›
  · cases e
    rename_i h _
    rcases h.rd with q | ⟨o, q⟩
    · exact .base (.dK q)
    · exact .fDict q
theorem cd_isi : CaD K (rIsi K) fIsi := by
  intro G W ρ σ H ds xs R Q ok h f k
  match ds, h, f with
  | [d, .v (.ty n)], .cons (x := x) h1 (.cons (.v _) .nil), ⟨t, b, f1, f2, f⟩ =>
    exact ⟨x, .ty n, _, _, b, rfl, .ty n, h1.ty f1, kit_ty f2, k _ _ _ _ f (.refl ok) (.of (.bl _))⟩
end
end DL


/-! DL3: statements, loops, comprehensions. -/
namespace DL
open PySem PySem.Spec L2
section
variable {K : PySem.W.Frag} {G : Gx} {T : WX} {σ : L2.St} {ρ ρ1 : Rho} {W W1 : Wd} {H H1 : Hp}
/-! ### slots are stored -/
theorem Ok.set (ok : Ok K G W ρ σ H) {i : Nat} {d : S} {x : V} (r : Rs K W H d x) (f : d.isOwn = true → ∀ p, x = .ref p → ¬ W.F p ∧ ¬ W.J p ∧ ¬ p ∈ W.C ∧ G.H p = none ∧ ¬ Ow ρ σ p) : Ok K G W (ρ.set i (some d)) (σ.set i (some x)) H := by
  have cs : ∀ {j : Nat} {e : S}, (ρ.set i (some d)).sl[j]? = some (some e) → (i = j ∧ d = e ∧ (σ.set i (some x))[j]? = some (some x)) ∨ (i ≠ j ∧ ρ.sl[j]? = some (some e) ∧ (σ.set i (some x))[j]? = σ[j]?) := fun {j e} h => by
    rcases set_get h with ⟨z1, z2⟩ | ⟨z1, z2⟩
    · cases z2; subst z1
      refine .inl ⟨rfl, rfl, ?_⟩
      have hl : i < ρ.sl.length := by
        have := (List.getElem?_eq_some_iff.mp h).1
        have e : (ρ.set i (some d)).sl.length = ρ.sl.length := List.length_set
        rwa [e] at this
      rw [List.getElem?_set_self (by rw [ok.len]; exact hl)]
    · exact .inr ⟨z1, z2, List.getElem?_set_ne z1⟩
  have ow : ∀ {j : Nat} {e : S} {a : Addr}, ρ.sl[j]? = some (some e) → e.isOwn = true → σ[j]? = some (some (.ref a)) → Ow ρ σ a := fun h1 h2 h3 => ⟨_, _, h1, h2, h3⟩
  refine ⟨List.length_set.trans (ok.len.trans List.length_set.symm), fun j e h => ?_, fun a ⟨j, e, h1, h2, h3⟩ => ?_, fun j l e e' a h1 h2 o1 o2 s1 s2 => ?_, ok.al, ok.en, ok.mm⟩
  · rcases cs h with ⟨_, q, s⟩ | ⟨_, q, s⟩
    · subst q; exact ⟨x, s, r⟩
    · rw [s]; exact ok.val j e q
  · rcases cs h1 with ⟨_, q, s⟩ | ⟨_, q, s⟩
    · subst q; rw [s] at h3; cases h3
      obtain ⟨a1, a2, a4, a3, _⟩ := f h2 a rfl
      exact ⟨a1, a2, a4, a3⟩
    · rw [s] at h3; exact ok.frs a (ow q h2 h3)
  · rcases cs h1 with ⟨z1, q1, t1⟩ | ⟨z1, q1, t1⟩
    · subst q1; rw [t1] at s1; cases s1
      rcases cs h2 with ⟨z2, q2, t2⟩ | ⟨z2, q2, t2⟩
      · exact z1.symm.trans z2
      · rw [t2] at s2
        exact absurd (ow q2 o2 s2) (f o1 a rfl).2.2.2.2
    · rw [t1] at s1
      rcases cs h2 with ⟨z2, q2, t2⟩ | ⟨z2, q2, t2⟩
      · subst q2; rw [t2] at s2; cases s2
        exact absurd (ow q1 o1 s1) (f o2 a rfl).2.2.2.2
      · rw [t2] at s2
        exact ok.inj j l e e' a q1 q2 o1 o2 s1 s2
/-- a value that has come since ok0, the slots' values as they were -/
theorem Go.fr (ok0 : Ok K G W ρ σ H) (g : Go K G σ ρ W H ρ1 W1 H1) {d : S} {x : V} (r : Res K H W1 H1 d x) : d.isOwn = true → ∀ p, x = .ref p → ¬ W1.F p ∧ ¬ W1.J p ∧ ¬ p ∈ W1.C ∧ G.H p = none ∧ ¬ Ow ρ1 σ p := fun o p e => by
  obtain ⟨a, b, d, c⟩ := r.fr o p e
  refine ⟨a, b, d, ok0.upG c, fun q => ?_⟩
  obtain ⟨u, hu⟩ := ok0.here (g.sub p q)
  rw [c] at hu
  cases hu
theorem Go.set (ok0 : Ok K G W ρ σ H) (g : Go K G σ ρ W H ρ1 W1 H1) {d : S} {x : V} (r : Res K H W1 H1 d x) (i : Nat) : Ok K G W1 (ρ1.set i (some d)) (σ.set i (some x)) H1 :=
  g.ok.set r.rs (g.fr ok0 r)
/-- a value kept over a further evaluation -/
theorem Res.go {ρ2 : Rho} {W2 : Wd} {H2 : Hp} (ok0 : Ok K G W ρ σ H) (g : Go K G σ ρ W H ρ1 W1 H1) (g2 : Go K G σ ρ1 W1 H1 ρ2 W2 H2) {d : S} {x : V} (r : Res K H W1 H1 d x) : Res K H W2 H2 d x := by
  have nO : d.isOwn = true → ∀ p, x = .ref p → H2 p = H1 p ∧ ¬ W2.F p ∧ ¬ W2.J p ∧ ¬ p ∈ W2.C := fun o p e => by
    obtain ⟨a, b, d, c, n⟩ := g.fr ok0 r o p e
    obtain ⟨q, u, e1, e2⟩ := r.rs.ow o
    rw [e] at e1; cases e1
    refine ⟨by rw [e2]; exact g2.stp.st p u e2 b d n, fun z => ?_, fun z => ?_, fun z => ?_⟩
    · rcases g2.stp.nF p z with y | y | y
      · exact a y
      · rw [e2] at y; cases y
      · exact n y
    · rcases g2.stp.nJ p z with y | y
      · exact b y
      · rw [e2] at y; cases y
    · rcases g2.stp.nC p z with y | y
      · exact d y
      · rw [e2] at y; cases y
  exact ⟨r.rs.le g2.stp.le fun o p e => (nO o p e).1, fun o p e => ⟨(nO o p e).2.1, (nO o p e).2.2.1, (nO o p e).2.2.2, (r.fr o p e).2.2.2⟩⟩
end
section
variable {X : Cx} {G : Gx} {T : WX} {a b c e : Expr} {w wa wb wc : WE} {t : WT} {u v : WS} {pos p : Pos} {st : Stmt} {rest : List Stmt}
/-! ### blocks and small statements -/
def wNext : WS := fun E ρ => E.nx ρ
def wSeq (u v : WS) : WS := fun E ρ => u { E with nx := v E } ρ
theorem dss_nil : DSs X G T [] wNext := pss_weak pss_nil fun D σ H ⟨W, ρ, E, ok, h, hn, _⟩ => hn ρ W σ H h ok (.refl _ _)
theorem lS_on {K : PySem.W.Frag} {σ : L2.St} {ρ1 : Rho} {W W1 : Wd} {H H1 : Hp} {D : Ends} {E : DEnds} (ok1 : Ok K G W1 ρ1 σ H1) (l : Le W H W1 H1) (h : u E ρ1) (hn : lN K G E.nx D.nx W H) (hr : lR K G E.rt D.rt W H) (hb : lN K G E.bk D.bk W H) (hc : lN K G E.ct D.ct W H) (hx : lX K G T E.ex W H) :
    lS K G T u D σ H1 := ⟨W1, ρ1, E, ok1, h, hn.le l, hr.le l, hb.le l, hc.le l, hx.le l⟩
theorem dss_cons (h1 : DS X G T st u) (h2 : DSs X G T rest v) : DSs X G T (st :: rest) (wSeq u v) :=
  pss_weak (pss_cons h1 h2) fun D σ H ⟨W, ρ, E, ok, h, hn, hr, hb, hc, hx⟩ => ⟨W, ρ, { E with nx := v E }, ok, h, fun ρ' W' σ' H' h' ok' l => lS_on ok' l h' hn hr hb hc hx, hr, hb, hc, hx⟩
theorem dss_one (h1 : DS X G T st u) : DSs X G T [st] u := pss_one h1
def wDrop (w : WE) : WS := fun E ρ => w E.ex ρ fun _ ρ' => E.nx ρ'
theorem ds_expr (he : DE X G T e w) (hs : swapsWith e none pos.line X.env = pure false := by rfl) : DS X G T (.Expr e pos) (wDrop w) :=
  ps_weak (ps_expr he hs) fun D σ H ⟨W, ρ, E, ok, h, hn, hr, hb, hc, hx⟩ => ⟨W, ρ, _, E.ex, ok, h, fun d ρ' W' x H' h' g _ => hn ρ' W' σ H' h' g.ok g.stp.le, hx.z σ ρ⟩
def wRet (w : WE) : WS := fun E ρ => w E.ex ρ fun d ρ' => E.rt d ρ'.mm
theorem ds_ret (he : DE X G T e w) : DS X G T (.Return (some e) pos) (wRet w) :=
  ps_weak (ps_ret he) fun D σ H ⟨W, ρ, E, ok, h, hn, hr, hb, hc, hx⟩ => ⟨W, ρ, _, E.ex, ok, h, fun d ρ' W' x H' h' g r => hr d ρ' W' σ x H' h' g.ok g.stp.le (r.up ok.en.up), hx.z σ ρ⟩
def wIf (t : WT) (u v : WS) : WS := fun E ρ => t E.ex ρ fun c ρ1 => if c = true then u E ρ1 else v E ρ1
theorem ds_if {c : Expr} {a b : List Stmt} (hc : DT X G T c t) (ha : DSs X G T a u) (hb : DSs X G T b v) : DS X G T (.If c a b pos) (wIf t u v) :=
  ps_weak (ps_if hc ha hb) fun D σ H ⟨W, ρ, E, ok, h, hn, hr, hb, hc, hx⟩ => lT_then ok h (hx.z σ ρ) fun c ρ1 W1 H1 hh g => by
    cases c with
    | true => exact lS_on g.ok g.stp.le hh hn hr hb hc hx
    | false => exact lS_on g.ok g.stp.le hh hn hr hb hc hx
def wSet (i : Nat) (w : WE) : WS := fun E ρ => w E.ex ρ fun d ρ' => E.nx (ρ'.set i (some d))
theorem lS_set {K : PySem.W.Frag} {σ : L2.St} {H : Hp} {D : Ends} {i : Nat} {te : TE} (ht : ∀ Q, lE K G T w σ H Q → te σ H Q) (h : lS K G T (wSet i w) D σ H) : tAsg te (gName i) D σ H := by
  obtain ⟨W, ρ, E, ok, h, hn, hr, hb, hc, hx⟩ := h
  exact ht _ ⟨W, ρ, _, E.ex, ok, h, fun d ρ' W' x H' h' g r => hn _ W' _ H' h' (g.set ok r i) g.stp.le, hx.z σ ρ⟩
theorem ds_set {i : Nat} {x : Str} {pos' : Pos} (hN : X.N.Nodup) (he : DE X G T e w) (hi : X.N[i]? = some x := by rfl) (hx : Loc X.env.scope x := by first | exact .inl rfl | exact .inr rfl) (hs : swapsWith e (some (.Name x pos')) pos.line X.env = pure false := by rfl) (hf : X.fn x = true ∨ X.env.scope.names.lookup x = some .local := by first | exact .inr rfl | exact .inl rfl | assumption) :
    DS X G T (.Assign [.Name x pos'] e pos) (wSet i w) :=
  ps_weak (ps_set hN hi hx he hs hf) fun D σ H h => lS_set (fun _ q => q) h
/-- a, b = x, y -/
def wPar (i j : Nat) (wa wb : WE) : WS := fun E ρ => wa E.ex ρ fun x ρ1 => wb E.ex ρ1 fun y ρ2 => E.nx ((ρ2.set i (some x)).set j (some y))
theorem lS_par {K : PySem.W.Frag} {σ : L2.St} {H : Hp} {D : Ends} {i j : Nat} (h : lS K G T (wPar i j wa wb) D σ H) : lE K G T wa σ H fun x H1 => lE K G T wb σ H1 fun y H2 => D.nx ((σ.set i (some x)).set j (some y)) H2 := by
  obtain ⟨W, ρ, E, ok, h, hn, hr, hb, hc, hx⟩ := h
  refine ⟨W, ρ, _, E.ex, ok, h, fun d ρ1 W1 x H1 h1 g r => ?_, hx.z σ ρ⟩
  refine ⟨W1, ρ1, _, E.ex, g.ok, h1, fun e ρ2 W2 y H2 h2 g2 r2 => ?_, (hx.z σ ρ).go g⟩
  have r' := r.go ok g g2
  have g12 := g.trans g2
  have ok1 := g12.set ok r' i
  refine hn _ W2 _ H2 h2 (ok1.set r2.rs fun o p ep => ?_) g12.stp.le
  obtain ⟨a, b, c0, c, n⟩ := g2.fr g.ok r2 o p ep
  refine ⟨a, b, c0, c, fun ⟨l, f, f1, f2, f3⟩ => ?_⟩
  rcases set_get f1 with ⟨z1, z2⟩ | ⟨z1, z2⟩
  · cases z2; subst z1
    have hl : i < (σ.set i (some x)).length := (List.getElem?_eq_some_iff.mp f3).1
    rw [List.length_set] at hl
    rw [List.getElem?_set_self hl] at f3
    cases f3
    obtain ⟨q, u, e1, e2⟩ := r.rs.ow f2
    cases e1
    have := (r2.fr o p ep).2.2.2
    rw [e2] at this; cases this
  · rw [List.getElem?_set_ne z1] at f3
    exact n ⟨l, f, z2, f2, f3⟩
theorem ds_par {i j : Nat} {x y : Str} {px py pt : Pos} {kt k2 pt2} (hN : X.N.Nodup) (ha : DE X G T a wa) (hb : DE X G T b wb) (hc : X.calm = true := by rfl) (hi : X.N[i]? = some x := by rfl) (hj : X.N[j]? = some y := by rfl) (hij : i ≠ j := by decide)
    (hx : X.env.scope.names.lookup x = some .local := by rfl) (hy : X.env.scope.names.lookup y = some .local := by rfl)
    (hw : swappedStores [.Tuple [.Name x px, .Name y py] kt pt] (.Tuple [a, b] k2 pt2) X.env = pure (some [x, y]) := by rfl)
    (hs : swapsWithSole [.Tuple [.Name x px, .Name y py] kt pt] (.Tuple [a, b] k2 pt2) pos.line X.env = pure false := by rfl)
    (hsa : starEach (a :: [b]) X.env = (false, eval a X.env) :: starEach [b] X.env := by rfl) (hsb : starEach [b] X.env = (false, eval b X.env) :: starEach [] X.env := by rfl) :
    DS X G T (.Assign [.Tuple [.Name x px, .Name y py] kt pt] (.Tuple [a, b] k2 pt2) pos) (wPar i j wa wb) :=
  ps_weak (L2.ps_par (ta := tCons (lE X.K G T wa) (tCons (lE X.K G T wb) tNil)) hc hN hi hj hij hx hy (pa_cons ha (pa_cons hb pa_nil hsb) hsa) hw hs) fun D σ H h => by
    have q := lS_par h
    obtain ⟨W, ρ, R, Z, ok, h, h1, hZ⟩ := q
    refine ⟨W, ρ, R, Z, ok, h, fun d ρ1 W1 x H1 hr g r => ?_, hZ⟩
    obtain ⟨W', ρ', R', Z', ok', h', h1', hZ'⟩ := h1 d ρ1 W1 x H1 hr g r
    exact ⟨W', ρ', R', Z', ok', h', fun d ρ1 W1 y H1 hr g r => ⟨x, y, rfl, h1' d ρ1 W1 y H1 hr g r⟩, hZ'⟩
/-! ### while -/
/-! ### targets that are names -/
def stores : L2.St → List Nat → List V → L2.St
  | σ, i :: is, x :: xs => stores (σ.set i (some x)) is xs
  | σ, _, _ => σ
def storesR : Rho → List (Nat × D) → Rho
  | ρ, (i, d) :: l => storesR (ρ.set i (some (.d d))) l
  | ρ, [] => ρ
theorem Ok.stores {K : PySem.W.Frag} {W : Wd} {H : Hp} : ∀ {l : List (Nat × D)} {ρ : Rho} {σ : L2.St} {xs : List V}, Ok K G W ρ σ H → DnA K W H (l.map (·.2)) xs → Ok K G W (storesR ρ l) (stores σ (l.map (·.1)) xs) H
  | [], _, _, _, ok, _ => ok
  | (i, d) :: l, ρ, σ, _, ok, .cons h1 h2 => Ok.stores (l := l) (ok.set (i := i) (d := .d d) h1 fun o => by cases o) h2
/-- the target tg of slots alone -/
def TgtL (X : Cx) (tg : Expr) (f : D → (List (Nat × D) → Prop) → Prop) (g : TG) : Prop := PG X tg g ∧
  ∀ (W : Wd) (H : Hp) (x : V) (d : D) (σ : L2.St) (Q : L2.St → Hp → Prop) (N : List (Nat × D) → Prop), Dn X.K W H d x → f d N → (∀ l xs, N l → DnA X.K W H (l.map (·.2)) xs → Q (stores σ (l.map (·.1)) xs) H) → g x σ H Q
def fName (i : Nat) (d : D) (N : List (Nat × D) → Prop) : Prop := N [(i, d)]
theorem tg_name {i : Nat} {x : Str} (hN : X.N.Nodup) (hi : X.N[i]? = some x := by rfl) (hx : Loc X.env.scope x := by first | exact .inl rfl | exact .inr rfl) (hf : X.fn x = true ∨ X.env.scope.names.lookup x = some .local := by first | exact .inr rfl | exact .inl rfl | assumption) :
    TgtL X (.Name x pos) (fName i) (gName i) :=
  ⟨pg_name hN hi hx hf, fun W H x d σ Q N h f k => k _ [x] f (.cons h .nil)⟩
/-- (x, y, ..): names -/
def fTupN (is : List Nat) (d : D) (N : List (Nat × D) → Prop) : Prop := match d with
  | .tup ds => ds.length = is.length ∧ N (is.zip ds)
  | _ => False
def gNames : List Nat → TGs
  | [] => gNil
  | i :: is => gCons (gName i) (gNames is)
theorem gNames_ok {K : PySem.W.Frag} {W : Wd} {H : Hp} : ∀ {is : List Nat} {ds : List D} {xs : List V} {σ : L2.St} {Q : L2.St → Hp → Prop}, DnA K W H ds xs → ds.length = is.length → Q (stores σ is xs) H → gNames is xs σ H Q
  | [], [], _, _, _, .nil, _, q => ⟨rfl, q⟩
  | i :: is, d :: ds, _, _, _, .cons h1 h2, e, q => ⟨_, _, rfl, gNames_ok h2 (by simpa using e) q⟩
  | [], _ :: _, _, _, _, _, e, _ => by simp at e
  | _ :: _, [], _, _, _, _, e, _ => by simp at e
theorem zip_maps : ∀ {is : List Nat} {ds : List D}, ds.length = is.length → (is.zip ds).map (·.1) = is ∧ (is.zip ds).map (·.2) = ds
  | [], [], _ => ⟨rfl, rfl⟩
  | i :: is, d :: ds, e => by
    obtain ⟨a, b⟩ := zip_maps (is := is) (ds := ds) (by simpa using e)
    exact ⟨by simp [a], by simp [b]⟩
  | [], _ :: _, e => by simp at e
  | _ :: _, [], e => by simp at e
theorem pgs_nm {i : Nat} {x : Str} {is : List Nat} {es : List Expr} (hN : X.N.Nodup) (h2 : PGs X es (gNames is)) (hi : X.N[i]? = some x := by rfl) (hx : Loc X.env.scope x := by first | exact .inl rfl | exact .inr rfl) (hf : X.fn x = true ∨ X.env.scope.names.lookup x = some .local := by first | exact .inr rfl | exact .inl rfl | assumption)
    (hs : (assignEach (.Name x pos :: es) X.env).map (·.2) = assign (.Name x pos) X.env :: (assignEach es X.env).map (·.2) := by rfl) : PGs X (.Name x pos :: es) (gNames (i :: is)) := pgs_cons (pg_name hN hi hx hf) h2 hs
theorem pgs_nm0 : PGs X [] (gNames []) := pgs_nil
theorem tg_tup {es : List Expr} {k : Nat} {is : List Nat} (h : PGs X es (gNames is)) (hc : X.calm = true := by rfl) (hn : (assignEach es X.env).length = is.length := by rfl) (hst : (assignEach es X.env).findIdx? (·.1) = none := by rfl) : TgtL X (.Tuple es k pos) (fTupN is) (gTup X.K is.length (gNames is)) :=
  ⟨pg_tup hc h hn hst, fun W H x d σ Q N hd f q => by
    cases hd <;> first | exact f.elim | skip
    rename_i h1 h2
    obtain ⟨e1, e2⟩ := zip_maps f.1
    refine ⟨_, _, rfl, SeqT.sq h1, by rw [← h2.length]; exact f.1, gNames_ok h2 f.1 ?_⟩
    have := q _ _ f.2 (by rw [e2]; exact h2)
    rwa [e1] at this⟩
/-- target = value, the target of names -/
def wAsgN (f : D → (List (Nat × D) → Prop) → Prop) (w : WE) : WS := fun E ρ => w E.ex ρ fun d ρ' => f d.frz fun l => E.nx (storesR ρ' l)
theorem ds_asgN {tg : Expr} {f : D → (List (Nat × D) → Prop) → Prop} {g : TG} (he : DE X G T e w) (hg : TgtL X tg f g) (hs : swapsWithSole [tg] e pos.line X.env = pure false := by rfl) (hw : swappedStores [tg] e X.env = pure none := by rfl)
    (h1 : (assignEach [tg] X.env).map (·.2) = [assign tg X.env] := by rfl) : DS X G T (.Assign [tg] e pos) (wAsgN f w) :=
  ps_weak (ps_asg he hg.1 hs hw h1) fun D σ H ⟨W, ρ, E, ok, h, hn, hr, hb, hc, hx⟩ => by
    refine lE_then (R := fun d ρ' => f d fun l => E.nx (storesR ρ' l)) ok h (hx.z σ ρ) fun d ρ1 W1 x H1 h1 g1 d1 => ?_
    exact hg.2 W1 H1 x d σ _ _ d1 h1 fun l xs hl da => hn _ W1 _ H1 hl (g1.ok.stores da) g1.stp.le
/-! ### what is walked -/
/-- the iterator J hands out the items ds, whatever grows meanwhile -/
def ItOk (K : PySem.W.Frag) (W : Wd) (H : Hp) (J : It) (ds : List D) : Prop := ∀ (i : Nat) (W1 : Wd) (H1 : Hp), Le W H W1 H1 → Al W1 H1 →
  (ds.length ≤ i → J.stop i H1) ∧ ∀ d, ds[i]? = some d → J.go i H1 ∧ ∀ x H2, J.yld i H1 x H2 → ∃ W2, Step no1 W1 H1 W2 H2 ∧ Al W2 H2 ∧ (W2.C = W1.C ∧ ∀ a ∈ W1.C, H2 a = H1 a) ∧ Dn K W2 H2 d x
abbrev WI := ZK → Rho → (List D → Rho → Prop) → Prop
def lI (K : PySem.W.Frag) (G : Gx) (T : WX) (wi : WI) : TI := fun σ H R => ∃ (W : Wd) (ρ : Rho) (N : List D → Rho → Prop) (Z : ZK), Ok K G W ρ σ H ∧ wi Z ρ N ∧
  (∀ ds ρ' W' H' J, N ds ρ' → Go K G σ ρ W H ρ' W' H' → ItOk K W' H' J ds → R J H') ∧ lZ K G T Z σ ρ W H
def DI (X : Cx) (G : Gx) (T : WX) (tg iter : Expr) (wi : WI) : Prop := PI X tg iter (lI X.K G T wi)
theorem pi_weak {X : Cx} {tg e : Expr} {t t' : TI} (h : PI X tg e t) (i : ∀ σ H R, t' σ H R → t σ H R) : PI X tg e t' := ⟨fun p s σ H Q I q => h.run p s σ H Q I (i σ H Q q)⟩
def wItems (w : WE) : WI := fun Z ρ N => w Z ρ fun d ρ' => ∃ ds, d.frz.items = some ds ∧ N ds ρ'
theorem itl_ok {K : PySem.W.Frag} {W : Wd} {H : Hp} {a : Addr} {xs : List V} {ds : List D} (hs : ∀ W1 H1, Le W H W1 H1 → SqL K H1 a xs) (da : DnA K W H ds xs) : ItOk K W H (Itl K a) ds := fun i W1 H1 l al => by
  refine ⟨fun h => ⟨xs, hs W1 H1 l, by rw [← da.length]; exact h⟩, fun d hd => ?_⟩
  obtain ⟨x, e1, e2⟩ := da.get hd
  refine ⟨⟨xs, x, hs W1 H1 l, e1⟩, fun y H2 ⟨e, q⟩ => ?_⟩
  subst e
  have := q xs (hs W1 _ l)
  rw [e1] at this
  cases this
  exact ⟨W1, .refl _ _ _, al, ⟨rfl, fun _ _ => rfl⟩, e2.le l⟩
theorem itt_ok {K : PySem.W.Frag} {W : Wd} {H : Hp} {a : Addr} {xs : List V} {ds : List D} (hs : ∀ W1 H1, Le W H W1 H1 → SqT K H1 a xs) (da : DnA K W H ds xs) : ItOk K W H (Itt K a) ds := fun i W1 H1 l al => by
  refine ⟨fun h => ⟨xs, hs W1 H1 l, by rw [← da.length]; exact h⟩, fun d hd => ?_⟩
  obtain ⟨x, e1, e2⟩ := da.get hd
  refine ⟨⟨xs, x, hs W1 H1 l, e1⟩, fun y H2 ⟨e, q⟩ => ?_⟩
  subst e
  have := q xs (hs W1 _ l)
  rw [e1] at this
  cases this
  exact ⟨W1, .refl _ _ _, al, ⟨rfl, fun _ _ => rfl⟩, e2.le l⟩
/-- a list or a tuple -/
def iSeq (K : PySem.W.Frag) (tl : TE) : TI := fun σ H R => tl σ H fun x H1 => ∃ a, x = .ref a ∧ (((∃ xs, SqL K H1 a xs) ∧ R (Itl K a) H1) ∨ ((∃ xs, SqT K H1 a xs) ∧ R (Itt K a) H1))
theorem pi_seq {tg l : Expr} {tl : TE} (hl : PE X l tl) : PI X tg l (iSeq X.K tl) := by
  constructor
  intro pins s σ H R I h
  refine thn (hl.run pins s σ H _ I h) fun v t ⟨x, H1, J, rv, a, ea, q⟩ => ?_
  subst ea
  cases rv
  have fr : ∀ b ∈ [t.heap.objs.size], FpOk X pins H1 b := fun b hb => by
    cases List.mem_singleton.mp hb
    exact J.fpOk (Nat.le_refl _) (J.hok.fresh (Nat.le_refl _))
  rcases q with ⟨⟨xs, hq⟩, q⟩ | ⟨⟨xs, hq⟩, q⟩
  · obtain ⟨its, _, pl, _⟩ := J.list hq
    exact wpAny_pyIter_list pl.isList ⟨_, [t.heap.objs.size], _, _, H1, rfl, J.kept (t' := t.toks) fun b o e => Heap.get?_push_of_some _ e, turn_list a _, ⟨_, Heap.get?_push_size _ rfl, rfl, rfl⟩, fr, q⟩
  · obtain ⟨its, _, pl, _⟩ := J.tuple hq
    exact wpAny_pyIter_tuple (show t.heap.IsTuple a its.toArray from pl) ⟨_, [t.heap.objs.size], _, _, H1, rfl, J.kept (t' := t.toks) fun b o e => Heap.get?_push_of_some _ e, turn_tuple a _, ⟨_, Heap.get?_push_size _ rfl, rfl, rfl⟩, fr, q⟩
theorem di_seq {tg : Expr} (he : DE X G T e w) : DI X G T tg e (wItems w) :=
  pi_weak (pi_seq he) fun σ H R ⟨W, ρ, N, Z, ok, h, hN, hZ⟩ => by
    refine lE_then (R := fun d ρ' => ∃ ds, d.items = some ds ∧ N ds ρ') ok h hZ fun d ρ1 W1 x H1 ⟨ds, h1, h2⟩ g1 d1 => ?_
    cases d1 with
    | tup e da =>
      cases h1
      exact ⟨_, rfl, .inr ⟨⟨_, e.sq⟩, hN _ _ _ _ _ h2 g1 (itt_ok (fun W2 H2 l => (e.le l).sq) da)⟩⟩
    | lst f e da =>
      cases h1
      exact ⟨_, rfl, .inl ⟨⟨_, SqL.of e⟩, hN _ _ _ _ _ h2 g1 (itl_ok (fun W2 H2 l => SqL.of ((l.k _ f).trans e)) da)⟩⟩
    | rls e da =>
      cases h1
      exact ⟨_, rfl, .inl ⟨⟨_, e.sq⟩, hN _ _ _ _ _ h2 g1 (itl_ok (fun W2 H2 l => (e.le l).sq) da)⟩⟩
    | _ => cases h1
/-- the ints lo, lo + 1, .. n of them -/
def rangeD (lo : Int) (n : Nat) : List D := (List.range n).map fun i => .int (lo + (i : Nat))
theorem itr_ok {K : PySem.W.Frag} {W : Wd} {H : Hp} {lo : Int} {n : Nat} : ItOk K W H (Itr lo n) (rangeD lo n) := fun i W1 H1 l al => by
  unfold rangeD
  refine ⟨fun h => (show n ≤ i by simpa using h), fun d hd => ?_⟩
  rw [List.getElem?_map] at hd
  by_cases q : i < n
  · rw [List.getElem?_range q] at hd
    cases hd
    refine ⟨q, fun y H2 ⟨e1, e2⟩ => ?_⟩
    subst e1 e2
    exact ⟨W1, .refl _ _ _, al, ⟨rfl, fun _ _ => rfl⟩, .int _⟩
  · rw [List.getElem?_eq_none (by simpa using q)] at hd
    cases hd
def rg1 (ds : List D) (N : List D → Prop) : Prop := match ds with
  | [.int j] => (-(2 ^ 62) ≤ j ∧ j < 2 ^ 62) ∧ N (rangeD 0 j.toNat)
  | _ => False
def rg2 (ds : List D) (N : List D → Prop) : Prop := match ds with
  | [.int i, .int j] => (-(2 ^ 62) ≤ i ∧ i < 2 ^ 62 ∧ -(2 ^ 62) ≤ j ∧ j < 2 ^ 62) ∧ N (rangeD i (j - i).toNat)
  | _ => False
def wRng (f : List D → (List D → Prop) → Prop) (u : WA) : WI := fun Z ρ N => u Z ρ fun ds ρ' => f ds fun l => N l ρ'
theorem di_range1 {tg : Expr} {ta : WA} (ha : DA X G T [a] ta) (hg : Gl X "range") (hm : X.mg "range" = none) (hs : starEach [a] X.env = [(false, eval a X.env)] := by rfl) : DI X G T tg (.Call (.Name "range" p) [a] [] pos) (wRng rg1 ta) :=
  pi_weak (pi_range1 hg hm ha hs) fun σ H R ⟨W, ρ, N, Z, ok, h, hN, hZ⟩ => ⟨W, ρ, _, Z, ok, h, fun ds ρ1 W1 xs H1 h1 g d => by
    match ds, xs, d, h1 with
    | [.int j], _, .cons (.int _) .nil, h1 => exact ⟨j, rfl, h1.1.1, h1.1.2, hN _ _ _ _ _ h1.2 g itr_ok⟩, hZ⟩
theorem di_range2 {tg : Expr} {ta : WA} (ha : DA X G T [a, b] ta) (hg : Gl X "range") (hm : X.mg "range" = none) (hs : starEach [a, b] X.env = [(false, eval a X.env), (false, eval b X.env)] := by rfl) (hs2 : starEach [b] X.env = [(false, eval b X.env)] := by rfl) : DI X G T tg (.Call (.Name "range" p) [a, b] [] pos) (wRng rg2 ta) :=
  pi_weak (pi_range2 hg hm ha hs hs2) fun σ H R ⟨W, ρ, N, Z, ok, h, hN, hZ⟩ => ⟨W, ρ, _, Z, ok, h, fun ds ρ1 W1 xs H1 h1 g d => by
    match ds, xs, d, h1 with
    | [.int i, .int j], _, .cons (.int _) (.cons (.int _) .nil), h1 => exact ⟨i, j, rfl, h1.1, hN _ _ _ _ _ h1.2 g itr_ok⟩, hZ⟩
/-! ### for -/
abbrev TgF := D → (List (Nat × D) → Prop) → Prop
def wForL (f : TgF) (b : WS) (E : DEnds) : List D → Rho → Prop
  | [] => fun ρ => E.nx ρ
  | d :: ds => fun ρ => f d fun l => b { E with nx := wForL f b E ds, ct := wForL f b E ds, bk := E.nx } (storesR ρ l)
def wFor (wi : WI) (f : TgF) (b : WS) : WS := fun E ρ => wi E.ex ρ fun ds ρ1 => wForL f b E ds ρ1
theorem ds_for {tg iter : Expr} {body : List Stmt} {wi : WI} {f : TgF} {g : TG} (hp : PassesOwn (model X.prog X.w) X.A X.env X.xe) (hi : DI X G T tg iter wi) (hg : TgtL X tg f g) (hb : DSs X G T body u) (hc : X.calm = true := by rfl)
    (hs : ∀ x, foldedSetIterable iter X.env x = pure x := by intro _; rfl) : DS X G T (.For tg iter body [] pos) (wFor wi f u) :=
  ps_weak (ps_for hp hc hi hg.1 hb hs) fun D σ H ⟨W, ρ, E, ok, h, hn, hr, hbk, hct, hx⟩ => by
    refine ⟨W, ρ, _, E.ex, ok, h, fun ds ρ1 W1 H1 J h1 g1 it => ?_, hx.z σ ρ⟩
    refine ⟨fun i m σ' H' => ∃ W' ρ', Ok X.K G W' ρ' σ' H' ∧ wForL f u E (ds.drop i) ρ' ∧ Le W1 H1 W' H' ∧ m = ds.length - i ∧ i ≤ ds.length, ⟨ds.length, W1, ρ1, g1.ok, h1, .refl _ _, rfl, Nat.zero_le _⟩, ?_⟩
    rintro i m σ' H' ⟨W', ρ', ok', h', l, rfl, hle⟩
    obtain ⟨q1, q2⟩ := it i W' H' l ok'.al
    have l0 := g1.stp.le.trans l
    by_cases hi : i < ds.length
    · obtain ⟨d, hd⟩ : ∃ d, ds[i]? = some d := ⟨ds[i], List.getElem?_eq_getElem hi⟩
      obtain ⟨go, yl⟩ := q2 d hd
      rw [List.drop_eq_getElem_cons hi] at h'
      have ed : ds[i] = d := by rw [List.getElem?_eq_getElem hi] at hd; exact Option.some.inj hd
      rw [ed] at h'
      have hN : lN X.K G (wForL f u E (ds.drop (i + 1))) (fun σ2 H2 => ∃ W2 ρ2, Ok X.K G W2 ρ2 σ2 H2 ∧ wForL f u E (ds.drop (i + 1)) ρ2 ∧ Le W1 H1 W2 H2) W' H' := fun ρ2 W2 σ2 H2 q o l2 => ⟨W2, ρ2, o, q, l.trans l2⟩
      refine .inr ⟨go, fun σ2 H2 => ∃ W2 ρ2, Ok X.K G W2 ρ2 σ2 H2 ∧ wForL f u E (ds.drop (i + 1)) ρ2 ∧ Le W1 H1 W2 H2, ?_, fun x H2 hy => ?_⟩
      · rintro σ2 H2 ⟨W2, ρ2, o, q, l2⟩
        exact ⟨ds.length - (i + 1), by omega, W2, ρ2, o, q, l2, rfl, by omega⟩
      · obtain ⟨W2, st, al2, ⟨ec, kc⟩, hd2⟩ := yl x H2 hy
        have g2 := ok'.grow0 st al2 ec kc
        refine hg.2 W2 H2 x d σ' _ _ hd2 h' fun lst xs hl da => ?_
        exact lS_on (E := { E with nx := wForL f u E (ds.drop (i + 1)), ct := wForL f u E (ds.drop (i + 1)), bk := E.nx }) (g2.ok.stores da) g2.stp.le hl hN (hr.le l0) (hn.le l0) hN (hx.le l0)
    · have e : i = ds.length := by omega
      subst e
      rw [List.drop_length] at h'
      exact .inl ⟨q1 (Nat.le_refl _), hn ρ' W' σ' H' h' ok' l0⟩
/-! ### comprehensions -/
def wipeR (ρ : Rho) : List Nat → Rho
  | [] => ρ
  | i :: is => (wipeR ρ is).set i none
abbrev noZ : ZK := fun _ _ => False
abbrev noT : WX := fun _ _ _ _ => False
/-- the slots vs hold nothing own -/
def NoOwn (ρ : Rho) (vs : List Nat) : Prop := ∀ i ∈ vs, ∀ d : S, ρ.sl[i]? = some (some d) → d.isOwn = false
def wLcL (f : TgF) (t : WT) (e : WE) (s : Sl) (R : List D → Mem → Prop) : List D → List D → Mem → Prop
  | [], acc, μ => R acc μ
  | d :: ds, acc, μ => f d fun l => t noZ (storesR ⟨s, μ⟩ l) fun b ρ3 => ρ3.sl = (storesR ⟨s, μ⟩ l).sl ∧ if b = true then e noZ ρ3 fun y ρ4 => ρ4.sl = ρ3.sl ∧ acc.length < sizeLine ∧ wLcL f t e s R ds (acc ++ [y.frz]) ρ4.mm else wLcL f t e s R ds acc ρ3.mm
def wLc (wi : WI) (f : TgF) (t : WT) (e : WE) (vs : List Nat) : WE := fun Z ρ R => wi Z ρ fun ds ρ1 => NoOwn ρ1 vs ∧ wLcL f t e (wipeR ρ1 vs).sl (fun acc μ => R (.own acc) ⟨ρ1.sl, μ⟩) ds [] ρ1.mm
def wYes : WT := fun _ ρ R => R true ρ
def DTs (X : Cx) (G : Gx) (T : WX) (ifs : List Expr) (w : WT) : Prop := PTs X ifs (lT X.K G T w)
theorem pts_weak {ifs : List Expr} {t t' : TT} (h : PTs X ifs t) (i : ∀ σ H Q, t' σ H Q → t σ H Q) : PTs X ifs t' := ⟨fun p s σ H Q I q => h.run p s σ H Q I (i σ H Q q)⟩
theorem dts_nil : DTs X G T [] wYes := pts_weak pts_nil fun σ H Q ⟨W, ρ, R, Z, ok, h, hR, _⟩ => hR _ _ _ _ h (.refl ok)
theorem dts_one (h : DT X G T e t) : DTs X G T [e] t := pts_one h
theorem wipe_get {σ : L2.St} {i : Nat} : ∀ {vs : List Nat}, i ∉ vs → (wipe σ vs)[i]? = σ[i]?
  | [], _ => rfl
  | v :: vs, h => by
    simp only [List.mem_cons, not_or] at h
    show ((wipe σ vs).set v none)[i]? = _
    rw [List.getElem?_set_ne (fun q => h.1 q.symm)]
    exact wipe_get h.2
theorem wipeR_some {ρ : Rho} {i : Nat} {d : S} : ∀ {vs : List Nat}, (wipeR ρ vs).sl[i]? = some (some d) → ρ.sl[i]? = some (some d) ∧ i ∉ vs
  | [], h => ⟨h, by simp⟩
  | v :: vs, h => by
    have h' : ((wipeR ρ vs).sl.set v none)[i]? = some (some d) := h
    rcases set_get h' with ⟨_, z⟩ | ⟨z1, z2⟩
    · cases z
    · obtain ⟨a, b⟩ := wipeR_some z2
      exact ⟨a, by simp only [List.mem_cons, not_or]; exact ⟨fun q => z1 q.symm, b⟩⟩
theorem wipeR_mm (ρ : Rho) : ∀ vs, (wipeR ρ vs).mm = ρ.mm
  | [] => rfl
  | v :: vs => wipeR_mm ρ vs
theorem wipe_mem {ρ1 : Rho} {μ : Mem} : ∀ {vs : List Nat}, (⟨(wipeR ρ1 vs).sl, μ⟩ : Rho) = wipeR ⟨ρ1.sl, μ⟩ vs
  | [] => rfl
  | v :: vs => congrArg (fun r : Rho => r.set v none) (wipe_mem (ρ1 := ρ1) (μ := μ) (vs := vs))
theorem wipeR_length (ρ : Rho) : ∀ vs, (wipeR ρ vs).sl.length = ρ.sl.length
  | [] => rfl
  | v :: vs => by show ((wipeR ρ vs).sl.set v none).length = _; rw [List.length_set]; exact wipeR_length ρ vs
theorem Ok.wipe {K : PySem.W.Frag} {σ : L2.St} {ρ : Rho} {W : Wd} {H : Hp} (ok : Ok K G W ρ σ H) (vs : List Nat) : Ok K G W (wipeR ρ vs) (wipe σ vs) H := by
  have ow : ∀ a, Ow (wipeR ρ vs) (L2.wipe σ vs) a → Ow ρ σ a := fun a ⟨i, d, h1, h2, h3⟩ => by
    obtain ⟨a1, a2⟩ := wipeR_some h1
    rw [wipe_get a2] at h3
    exact ⟨i, d, a1, h2, h3⟩
  refine ⟨by rw [wipe_length, wipeR_length, ok.len], fun i d h => ?_, fun a h => ok.frs a (ow a h), fun i j d e a h1 h2 o1 o2 s1 s2 => ?_, ok.al, ok.en, by rw [wipeR_mm]; exact ok.mm⟩
  · obtain ⟨a1, a2⟩ := wipeR_some h
    rw [wipe_get a2]
    exact ok.val i d a1
  · obtain ⟨a1, a2⟩ := wipeR_some h1
    obtain ⟨b1, b2⟩ := wipeR_some h2
    rw [wipe_get a2] at s1
    rw [wipe_get b2] at s2
    exact ok.inj i j d e a a1 b1 o1 o2 s1 s2
/-- only slots of vs are stored -/
def TgIn (f : TgF) (vs : List Nat) : Prop := ∀ d N N', f d N → (∀ l, N l → (∀ p ∈ l, p.1 ∈ vs) → N' l) → f d N'
theorem tin_name {i : Nat} {vs : List Nat} (h : i ∈ vs) : TgIn (fName i) vs := fun d N N' f k => k _ f fun p hp => by
  simp only [List.mem_singleton] at hp; subst hp; exact h
theorem wipe_set {σ : L2.St} {i : Nat} {o : Option V} : ∀ {vs : List Nat}, i ∈ vs → wipe (σ.set i o) vs = wipe σ vs
  | v :: vs, h => by
    show (wipe (σ.set i o) vs).set v none = (wipe σ vs).set v none
    by_cases q : i ∈ vs
    · rw [wipe_set q]
    · have e : i = v := by simpa [q] using h
      subst e
      apply List.ext_getElem?
      intro j
      by_cases qj : i = j
      · subst qj
        simp [List.getElem?_set, wipe_length, List.length_set]
      · rw [List.getElem?_set_ne qj, List.getElem?_set_ne qj]
        have : ∀ (vs : List Nat), (wipe (σ.set i o) vs)[j]? = (wipe σ vs)[j]? := fun vs => by
          induction vs with
          | nil => exact List.getElem?_set_ne qj
          | cons u us ih =>
            show ((wipe (σ.set i o) us).set u none)[j]? = ((wipe σ us).set u none)[j]?
            rw [List.getElem?_set, List.getElem?_set, ih, wipe_length, wipe_length, List.length_set]
        exact this vs
theorem wipe_stores {vs : List Nat} : ∀ {l : List (Nat × D)} {σ : L2.St} {xs : List V}, (∀ p ∈ l, p.1 ∈ vs) → wipe (stores σ (l.map (·.1)) xs) vs = wipe σ vs
  | [], _, _, _ => rfl
  | (i, d) :: l, σ, [], _ => rfl
  | (i, d) :: l, σ, x :: xs, h => by
    show wipe (stores (σ.set i (some x)) (l.map (·.1)) xs) vs = _
    rw [wipe_stores (l := l) (fun p hp => h p (List.mem_cons_of_mem _ hp)), wipe_set (h (i, d) (List.mem_cons_self ..))]
theorem wipe_wipe {σ : L2.St} : ∀ {us vs : List Nat}, (∀ i ∈ us, i ∈ vs) → wipe (wipe σ us) vs = wipe σ vs
  | [], _, _ => rfl
  | u :: us, vs, h => by
    show wipe ((wipe σ us).set u none) vs = _
    rw [wipe_set (h u (List.mem_cons_self ..)), wipe_wipe fun i hi => h i (List.mem_cons_of_mem _ hi)]
theorem ow_wipe {ρ : Rho} {σ : L2.St} {vs : List Nat} {a : Addr} (h : Ow (wipeR ρ vs) (wipe σ vs) a) : Ow ρ σ a := by
  obtain ⟨i, d, h1, h2, h3⟩ := h
  obtain ⟨a1, a2⟩ := wipeR_some h1
  rw [wipe_get a2] at h3
  exact ⟨i, d, a1, h2, h3⟩
theorem ow_stores {K : PySem.W.Frag} {W : Wd} {H : Hp} {a : Addr} : ∀ {l : List (Nat × D)} {ρ : Rho} {σ : L2.St} {xs : List V}, DnA K W H (l.map (·.2)) xs → Ow (storesR ρ l) (stores σ (l.map (·.1)) xs) a → Ow ρ σ a
  | [], _, _, _, _, h => h
  | (i, d) :: l, ρ, σ, _, .cons (x := x) h1 h2, h => by
    obtain ⟨j, e, e1, e2, e3⟩ := ow_stores (l := l) h2 h
    rcases set_get e1 with ⟨z1, z2⟩ | ⟨z1, z2⟩
    · cases z2; cases e2
    · rw [List.getElem?_set_ne z1] at e3
      exact ⟨j, e, z2, e2, e3⟩
/-- an object that nobody else knows is written -/
theorem Ok.write {K : PySem.W.Frag} {σ : L2.St} {ρ : Rho} {W : Wd} {H : Hp} {p : Addr} {o : HO} (ok : Ok K G W ρ σ H) (hf : ¬ W.F p) (hj : ¬ W.J p) (hc : ¬ p ∈ W.C) (h0 : G.H p = none) (ho : ¬ Ow ρ σ p) : Ok K G W ρ σ (upd H p o) := by
  have l : Le W H W (upd H p o) := .same fun a h => upd_ne fun e => hf (by rw [← e]; exact h)
  have kc : ∀ a ∈ W.C, upd H p o a = H a := fun a h => upd_ne fun e => hc (by rw [← e]; exact h)
  refine ⟨ok.len, fun i d h => ?_, ok.frs, ok.inj, ⟨fun a h => ?_, fun a h => ?_, ok.al.d, fun a h => ⟨(ok.al.c a h).1, (ok.al.c a h).2.1, by rw [kc a h]; exact (ok.al.c a h).2.2⟩, ok.al.nd, ok.al.t⟩, ⟨ok.en.le.trans l, ok.en.nF, ok.en.nJ, ok.en.nC, fun a u e nj nc no => ?_, fun a e => ?_⟩, ok.mm.keep l rfl kc⟩
  · obtain ⟨x, e, r⟩ := ok.val i d h
    exact ⟨x, e, r.le l fun o q eq => upd_ne fun z => ho (by rw [← z]; exact ⟨i, d, h, o, by rw [e, eq]⟩)⟩
  · rw [l.k a h]; exact ok.al.f a h
  · exact (ok.al.j a h).le l (upd_ne fun q => hj (by rw [← q]; exact h))
  · rw [upd_ne (ne_of_none e h0)]; exact ok.en.st a u e nj nc no
  · by_cases q : a = p
    · subst q; exact h0
    · rw [upd_ne q] at e; exact ok.en.up a e
theorem Step.write {ow : Addr → Prop} {W W1 : Wd} {H H1 : Hp} {p : Addr} {o : HO} (s : Step ow W H W1 H1) (al : Al W H) (h0 : H p = none) : Step ow W H W1 (upd H1 p o) where
  le := ⟨s.le.F, s.le.J, fun a h => by
    obtain ⟨u, e⟩ := al.f a h
    rw [upd_ne (ne_of_none e h0)]; exact s.le.k a h, s.le.C, s.le.g, s.le.T⟩
  nF := s.nF
  nJ := s.nJ
  nC := s.nC
  st := fun a u e nj nc no => by rw [upd_ne (ne_of_none e h0)]; exact s.st a u e nj nc no
  up := fun a e => by
    by_cases q : a = p
    · subst q; exact h0
    · rw [upd_ne q] at e; exact s.up a e
theorem storesR_ne {i : Nat} : ∀ {l : List (Nat × D)} {ρ : Rho}, (∀ p ∈ l, p.1 ≠ i) → (storesR ρ l).sl[i]? = ρ.sl[i]?
  | [], _, _ => rfl
  | (j, d) :: l, ρ, h => by
    show (storesR (ρ.set j _) l).sl[i]? = _
    rw [storesR_ne (l := l) fun p hp => h p (List.mem_cons_of_mem _ hp)]
    show (ρ.sl.set j _)[i]? = _
    rw [List.getElem?_set_ne (h (j, d) (List.mem_cons_self ..))]
theorem stores_ne {i : Nat} : ∀ {is : List Nat} {σ : L2.St} {xs : List V}, (∀ p ∈ is, p ≠ i) → (stores σ is xs)[i]? = σ[i]?
  | [], _, _, _ => by unfold stores; rfl
  | _ :: _, _, [], _ => by unfold stores; rfl
  | j :: is, σ, x :: xs, h => by
    show (stores (σ.set j _) is xs)[i]? = _
    rw [stores_ne (is := is) fun p hp => h p (List.mem_cons_of_mem _ hp), List.getElem?_set_ne (h j (List.mem_cons_self ..))]
theorem wipeR_ne {ρ : Rho} {i : Nat} : ∀ {vs : List Nat}, i ∉ vs → (wipeR ρ vs).sl[i]? = ρ.sl[i]?
  | [], _ => rfl
  | v :: vs, h => by
    simp only [List.mem_cons, not_or] at h
    show ((wipeR ρ vs).sl.set v none)[i]? = _
    rw [List.getElem?_set_ne (fun q => h.1 q.symm)]
    exact wipeR_ne h.2
/-- behind a block, the slots as they were -/
theorem Ok.unblk {K : PySem.W.Frag} {σ : L2.St} {ρ : Rho} {W W' : Wd} {H H' : Hp} {vs : List Nat} {l : List (Nat × D)} {xs : List V} (ok0 : Ok K G W ρ σ H) (n : NoOwn ρ vs) (hl : ∀ p ∈ l, p.1 ∈ vs)
    {ρb : Rho} (eb : ρb.sl = (storesR (wipeR ρ vs) l).sl) (ok : Ok K G W' ρb (DL.stores (L2.wipe σ vs) (l.map (·.1)) xs) H') (le : Le W H W' H') : Ok K G W' ⟨ρ.sl, ρb.mm⟩ σ H' := by
  have e1 : ∀ i, i ∉ vs → ρb.sl[i]? = ρ.sl[i]? := fun i h => by
    rw [eb, storesR_ne (i := i) (fun p hp q => h (by rw [← q]; exact hl p hp)), wipeR_ne h]
  have e2 : ∀ i, i ∉ vs → (DL.stores (L2.wipe σ vs) (l.map (·.1)) xs)[i]? = σ[i]? := fun i h => by
    rw [stores_ne (fun p hp q => ?_), wipe_get h]
    obtain ⟨z, hz, rfl⟩ := List.mem_map.mp hp
    exact h (by rw [← q]; exact hl z hz)
  have nv : ∀ (i : Nat) (d : S), ρ.sl[i]? = some (some d) → d.isOwn = true → i ∉ vs := fun i d h o q => by rw [n i q d h] at o; cases o
  refine ⟨ok0.len, fun i d h => ?_, fun a ⟨i, d, h1, h2, h3⟩ => ?_, fun i j d e a h1 h2 o1 o2 s1 s2 => ?_, ok.al, ok.en, ok.mm⟩
  · by_cases q : i ∈ vs
    · obtain ⟨x, e, r⟩ := ok0.val i d h
      refine ⟨x, e, r.le le fun o => ?_⟩
      rw [n i q d h] at o; cases o
    · rw [← e2 i q]; exact ok.val i d (by rw [e1 i q]; exact h)
  · have q := nv i d h1 h2
    exact ok.frs a ⟨i, d, by rw [e1 i q]; exact h1, h2, by rw [e2 i q]; exact h3⟩
  · have q := nv i d h1 o1
    have q' := nv j e h2 o2
    exact ok.inj i j d e a (by rw [e1 i q]; exact h1) (by rw [e1 j q']; exact h2) o1 o2 (by rw [e2 i q]; exact s1) (by rw [e2 j q']; exact s2)
theorem lE_lc {K : PySem.W.Frag} {X' : Cx} (hK : X'.K = K) {wi : WI} {f : TgF} {g : TG} {tg : Expr} {te : WE} {vs : List Nat} (hg : TgtL X' tg f g) (hin : TgIn f vs) {σ : L2.St} {H : Hp} {Q : VK} (h : lE K G T (wLc wi f t te vs) σ H Q) :
    tLc (lI K G T wi) g (lT K G noT t) (lE K G noT te) vs σ H Q := by
  subst hK
  obtain ⟨W, ρ, R, Z, ok, h, hR, hZ⟩ := h
  refine ⟨W, ρ, _, Z, ok, h, fun ds ρ1 W1 H1 J ⟨hno, h1⟩ g1 it D hD => ?_, hZ⟩
  have al1 := g1.ok.al
  have hD0 : G.H D = none := g1.ok.upG hD
  have nOD : ¬ Ow ρ1 σ D := fun q => by
    obtain ⟨o, e⟩ := g1.ok.here q
    rw [hD] at e; cases e
  have start := Go.new (o := .lst []) g1.ok hD
  refine ⟨fun i m H' => ∃ W' μ acc xs, Ok X'.K G W' ⟨ρ1.sl, μ⟩ σ H' ∧ H' D = some (.lst xs) ∧ DnA X'.K W' H' acc xs ∧ ¬ W'.F D ∧ (¬ W'.J D ∧ ¬ D ∈ W'.C) ∧ wLcL f t te (wipeR ρ1 vs).sl (fun acc μ => R (.own acc) ⟨ρ1.sl, μ⟩) (ds.drop i) acc μ ∧ Step (Ow ρ1 σ) W1 H1 W' H' ∧ m = ds.length - i ∧ i ≤ ds.length, ?_, ?_⟩
  · refine ⟨ds.length, W1, ρ1.mm, [], [], start.ok, upd_same, .nil, fun q => ?_, ⟨fun q => ?_, fun q => ?_⟩, h1, start.stp, rfl, Nat.zero_le _⟩
    · obtain ⟨o, e⟩ := al1.f D q; rw [hD] at e; cases e
    · obtain ⟨u, e⟩ := (al1.j D q).some; rw [hD] at e; cases e
    · obtain ⟨_, _, o, e⟩ := al1.c D q; rw [hD] at e; cases e
  rintro i m H' ⟨W', μ, acc, xs, ok', eD, da, nF, ⟨nJ, nC⟩, h', st, rfl, hle⟩
  obtain ⟨q1, q2⟩ := it i W' H' st.le ok'.al
  by_cases hi : i < ds.length
  · obtain ⟨d, hd⟩ : ∃ d, ds[i]? = some d := ⟨ds[i], List.getElem?_eq_getElem hi⟩
    obtain ⟨go, yl⟩ := q2 d hd
    have ed : ds[i] = d := by rw [List.getElem?_eq_getElem hi] at hd; exact Option.some.inj hd
    rw [List.drop_eq_getElem_cons hi, ed] at h'
    refine .inr ⟨go, fun H2 => ∃ W' μ acc xs, Ok X'.K G W' ⟨ρ1.sl, μ⟩ σ H2 ∧ H2 D = some (.lst xs) ∧ DnA X'.K W' H2 acc xs ∧ ¬ W'.F D ∧ (¬ W'.J D ∧ ¬ D ∈ W'.C) ∧ wLcL f t te (wipeR ρ1 vs).sl (fun acc μ => R (.own acc) ⟨ρ1.sl, μ⟩) (ds.drop (i + 1)) acc μ ∧ Step (Ow ρ1 σ) W1 H1 W' H2, ?_, fun x H2 hy => ?_⟩
    · rintro H2 ⟨W2, μ2, acc2, xs2, o, e, da2, f1, f2, q, s2⟩
      exact ⟨ds.length - (i + 1), by omega, W2, μ2, acc2, xs2, o, e, da2, f1, f2, q, s2, rfl, by omega⟩
    · obtain ⟨W2, st2, al2, ⟨ec, kc⟩, hd2⟩ := yl x H2 hy
      have g2 := ok'.grow0 st2 al2 ec kc
      have okb := g2.ok.wipe vs
      have ew : (⟨(wipeR ρ1 vs).sl, μ⟩ : Rho) = wipeR ⟨ρ1.sl, μ⟩ vs := wipe_mem
      refine hg.2 W2 H2 x d (wipe σ vs) _ _ hd2 (hin d _ _ h' fun l hl hv => (⟨hl, hv⟩ : _ ∧ ∀ p ∈ l, p.1 ∈ vs)) fun l xs' ⟨hl, hv⟩ dl => ?_
      have ok3 := okb.stores dl
      rw [ew] at hl
      have owS : ∀ a, Ow (storesR (wipeR ⟨ρ1.sl, μ⟩ vs) l) (stores (wipe σ vs) (l.map (·.1)) xs') a → Ow ρ1 σ a := fun a q => ow_wipe (ρ := ⟨ρ1.sl, μ⟩) (ow_stores dl q)
      have nD2 : W2.F D → False := fun q => (st2.nF D q).elim nF fun z => z.elim (fun e => by rw [eD] at e; cases e) id
      have nJ2 : W2.J D → False := fun q => (st2.nJ D q).elim nJ fun e => by rw [eD] at e; cases e
      have nC2 : D ∈ W2.C → False := fun q => nC (by rw [← ec]; exact q)
      have eD2 : H2 D = some (.lst xs) := st2.st D _ eD nJ nC fun q => q
      have sA : Step (Ow ρ1 σ) W1 H1 W2 H2 := st.trans st2 fun _ q => q.elim
      refine ⟨by rw [wipe_stores hv, wipe_wipe fun _ h => h], ?_⟩
      refine ⟨W2, _, _, noZ, ok3, hl, fun b ρ3 W3 H3 ⟨e3, hb⟩ g3 => ?_, fun _ _ _ _ _ _ q => q.elim⟩
      have owS3 : ∀ a, Ow ρ3 (stores (wipe σ vs) (l.map (·.1)) xs') a → Ow ρ1 σ a := fun a q => owS a (g3.sub a q)
      have nD3 : W3.F D → False := fun q => (g3.stp.nF D q).elim nD2 fun z => z.elim (fun e => by rw [eD2] at e; cases e) fun q => nOD (owS D q)
      have nJ3 : W3.J D → False := fun q => (g3.stp.nJ D q).elim nJ2 fun e => by rw [eD2] at e; cases e
      have nC3 : D ∈ W3.C → False := fun q => (g3.stp.nC D q).elim nC2 fun e => by rw [eD2] at e; cases e
      have eD3 : H3 D = some (.lst xs) := g3.stp.st D _ eD2 nJ2 nC2 fun q => nOD (owS D q)
      have sB : Step (Ow ρ1 σ) W1 H1 W3 H3 := sA.trans g3.stp fun a q => .inl (owS a q)
      cases b with
      | false =>
        simp only [Bool.false_eq_true, if_false] at hb ⊢
        exact ⟨W3, ρ3.mm, acc, xs, ok'.unblk (ρ := ⟨ρ1.sl, μ⟩) hno hv e3 g3.ok (st2.le.trans g3.stp.le), eD3, da.le (st2.le.trans g3.stp.le), nD3, ⟨nJ3, nC3⟩, hb, sB⟩
      | true =>
        simp only [if_true] at hb ⊢
        refine lE_then (T := noT) (R := fun y ρ4 => ρ4.sl = ρ3.sl ∧ acc.length < sizeLine ∧ wLcL f t te (wipeR ρ1 vs).sl (fun acc μ => R (.own acc) ⟨ρ1.sl, μ⟩) (ds.drop (i + 1)) (acc ++ [y]) ρ4.mm) g3.ok hb (fun _ _ _ _ _ _ q => q.elim) fun y ρ4 W4 z H4 ⟨e4, hlen, h4⟩ g4 d4 => ?_
        have nD4 : W4.F D → False := fun q => (g4.stp.nF D q).elim nD3 fun z => z.elim (fun e => by rw [eD3] at e; cases e) fun q => nOD (owS3 D q)
        have nJ4 : W4.J D → False := fun q => (g4.stp.nJ D q).elim nJ3 fun e => by rw [eD3] at e; cases e
        have nC4 : D ∈ W4.C → False := fun q => (g4.stp.nC D q).elim nC3 fun e => by rw [eD3] at e; cases e
        have eD4 : H4 D = some (.lst xs) := g4.stp.st D _ eD3 nJ3 nC3 fun q => nOD (owS3 D q)
        have l4 : Le W' H' W4 H4 := (st2.le.trans g3.stp.le).trans g4.stp.le
        have lw : Le W4 H4 W4 (upd H4 D (.lst (xs ++ [z]))) := .same fun a h => upd_ne fun e => nD4 (by rw [← e]; exact h)
        refine ⟨xs, eD4, by rw [← da.length]; exact hlen, W4, ρ4.mm, acc ++ [y], xs ++ [z], (ok'.unblk (ρ := ⟨ρ1.sl, μ⟩) hno hv (e4.trans e3) g4.ok l4).write nD4 nJ4 nC4 hD0 nOD, upd_same, ((da.le l4).append (.cons d4 .nil)).le lw, nD4, ⟨nJ4, nC4⟩, h4, ?_⟩
        exact (sB.trans g4.stp fun a q => .inl (owS3 a q)).write al1 hD
  · have e : i = ds.length := by omega
    subst e
    rw [List.drop_length] at h'
    refine .inl ⟨q1 (Nat.le_refl _), hR (.own acc) ⟨ρ1.sl, μ⟩ W' (.ref D) H' h' (g1.trans ⟨ok', st, fun _ q => q⟩) ⟨⟨D, xs, rfl, eD, da⟩, fun _ p e => ?_⟩⟩
    cases e
    exact ⟨nF, nJ, nC, g1.stp.up D hD⟩
theorem de_lc {elt tg iter : Expr} {ifs : List Expr} {scope : Scope} {own : List (Str × Nat)} {wi : WI} {f : TgF} {g : TG} {te : WE} (hN : X.N.Nodup) (hi : DI X G T tg iter wi) (ok : BlkOk X.N X.env.scope scope own)
    (hg : ∀ (s : Shared) (H : Hp) (C : Addr) (cl : List (Str × Addr)) (fp : List Addr), TgtL (X.blk s H scope (compEnvC scope cl C X.env) fp) tg f g) (hin : TgIn f (own.map (·.2)))
    (ht : ∀ (s : Shared) (H : Hp) (C : Addr) (cl : List (Str × Addr)) (fp : List Addr), DTs (X.blk s H scope (compEnvC scope cl C X.env) fp) G noT ifs t)
    (he : ∀ (s : Shared) (H : Hp) (C : Addr) (cl : List (Str × Addr)) (fp : List Addr), DE (X.blk s H scope (compEnvC scope cl C X.env) fp) G noT elt te) (hc : X.calm = true := by rfl) (hs : ∀ x, foldedSetIterable iter X.env x = pure x := by intro _; rfl) :
    DE X G T (.ListComp elt [⟨tg, iter, ifs, 0⟩] scope pos) (wLc wi f t te (own.map (·.2))) :=
  ⟨fun pins s σ H Q I h => (pe_lc (tt := lT X.K G noT t) (te := lE X.K G noT te) hc hN hi ok (fun s H C cl fp => (hg s H C cl fp).1) ht he hs).run pins s σ H Q I (lE_lc (X' := X.blk s H scope (compEnvC scope [] 0 X.env) []) rfl (hg s H 0 [] []) hin h)⟩
end
end DL


/-! DL4: defs over data, their calls, the law's end. -/
namespace DL
open PySem PySem.Spec L2
/-- behind a call -/
structure Ret (K : PySem.W.Frag) (W : Wd) (H : Hp) (W' : Wd) (H' : Hp) (d : S) (μ : Mem) (x : V) : Prop where
  al : Al W' H'
  stp : Step no1 W H W' H'
  res : Res K H W' H' d x
  mm : Cells K W' μ H'
structure RetX (K : PySem.W.Frag) (W : Wd) (H : Hp) (W' : Wd) (H' : Hp) (x : Exn) (μ : Mem) (c : Value) (dx : Option Addr) : Prop where
  al : Al W' H'
  stp : Step no1 W H W' H'
  ex : ExAt K W' H' x c dx
  mm : Cells K W' μ H'
/-- the def at f does over data what wf says; k: how deep it calls -/
def FnG (P : Program) (w : World) (K : PySem.W.Frag) (mg : Str → Option Value) (base : Heap) (k : Nat) (f : Addr) (fd : FuncData) (ps : List Str) (wf : WF) : Prop :=
  ∀ (A : Around) (outer : List PySem.Env) (s : Shared) (H : Hp) (args : Args) (us : List Value) (vs : List V) (ds : List D) (W : Wd) (μ : Mem) (R : S → Mem → Prop) (Z : Exn → Mem → Prop) (Q : VK) (E : XK),
    A.guards = some [] → Room k A → Env0 P w K mg base A outer s H → BindsTo s fd args (ps.zip us) → Vals vs us → ds.length = ps.length → Al W H → Cells K W μ H → W.g = mg → DnA K W H ds vs → wf Z ds μ R →
    (∀ d μ' W' x H', R d μ' → Ret K W H W' H' d μ' x → Q x H') → (∀ x μ' W' H' c dx, Z x μ' → RetX K W H W' H' x μ' c dx → E c dx H') →
    codeAny (model P w) A (.call (.ref f) args) (CR (L2.CX P w) outer P w H s Q E) s
/-- what a body's context gives -/
structure CxG (X : Cx) (T : WX) (k : Nat) : Prop where
  tk : Takes X T
  gd : X.A.guards = some []
  rm : Room k X.A
  po : PassesOwn (model X.prog X.w) X.A X.env X.xe
theorem CxG.u64 {X : Cx} {T : WX} {k : Nat} (c : CxG X T k) : X.A.units + 64 < cLine := c.rm.units
theorem takes_no {X : Cx} : Takes X noT := fun u s' h => by
  obtain ⟨_, _, _, _, _, _, _, _, _, _, _, _, _, _, _, _, z⟩ := h
  exact z.elim
theorem CxG.blk {X : Cx} {T : WX} {k : Nat} (c : CxG X T k) (s : Shared) (H : Hp) (sc : Scope) (e : PySem.Env) (fp : List Addr) (po : PassesOwn (model X.prog X.w) X.A e fun _ _ => False) : CxG (X.blk s H sc e fp) noT k :=
  ⟨takes_no, c.gd, c.rm, po⟩
def sl0 (N : List Str) (ds : List D) : Sl := ds.map (fun d => some (.d d)) ++ List.replicate (N.length - ds.length) none
def rho0 (N : List Str) (ds : List D) (μ : Mem) : Rho := ⟨sl0 N ds, μ⟩
theorem start_ok {K : PySem.W.Frag} {W : Wd} {H : Hp} {N : List Str} {ds : List D} {vs : List V} {μ : Mem} (al : Al W H) (mm : Cells K W μ H) (h : DnA K W H ds vs) : Ok K ⟨W, H⟩ W (rho0 N ds μ) (L2.start N vs) H := by
  have hl := h.length
  have noO : ∀ (i : Nat) (d : S), (sl0 N ds)[i]? = some (some d) → ∃ e, d = .d e ∧ ds[i]? = some e := fun i d e => by
    unfold sl0 at e
    by_cases q : i < ds.length
    · rw [List.getElem?_append_left (by rw [List.length_map]; exact q), List.getElem?_map] at e
      cases z : ds[i]? with
      | none => rw [z] at e; cases e
      | some y => rw [z] at e; cases e; exact ⟨y, rfl, rfl⟩
    · rw [List.getElem?_append_right (by rw [List.length_map]; omega), List.getElem?_replicate] at e
      split at e <;> cases e
  refine ⟨?_, fun i d e => ?_, fun a ⟨i, d, e, o, _⟩ => ?_, fun i j d e a h1 h2 o1 => ?_, al, .refl _ _ _, mm⟩
  · unfold L2.start rho0 sl0
    dsimp only
    rw [List.length_append, List.length_append, List.length_map, List.length_map, List.length_replicate, List.length_replicate, hl]
  · obtain ⟨y, rfl, hy⟩ := noO i d e
    obtain ⟨x, e1, e2⟩ := h.get hy
    refine ⟨x, ?_, e2⟩
    unfold L2.start
    rw [List.getElem?_append_left (by rw [List.length_map]; exact (List.getElem?_eq_some_iff.mp e1).1), List.getElem?_map, e1]
    rfl
  · obtain ⟨y, rfl, _⟩ := noO i d e; cases o
  · obtain ⟨y, rfl, _⟩ := noO i d h1; cases o1
section
variable {P : Program} {w : World} {K : PySem.W.Frag} {mg : Str → Option Value} {base : Heap}
/-- THE RULE for a def -/
theorem ok_def {x qual : Str} {st : Stmt} {f : Addr} {fd : FuncData} {N ps : List Str} {k : Nat} {wf : WF} {wb : WS} (F : Fun K x qual st f fd) (Sc : FnScope N ps (defScope st))
    (hw : ∀ Z ds μ R, ds.length = ps.length → wf Z ds μ R → wb ⟨fun ρ => R (.d .non) ρ.mm, R, fun _ => False, fun _ => False, fun x ρ => Z x ρ.mm⟩ (rho0 N ds μ))
    (hb : ∀ (cdv : Value) (A : Around) (outer : List PySem.Env) (s : Shared) (H : Hp) (E : XK) (W : Wd), W.g = mg → CxG (cxOf (L2.CX P w) P w K mg base N qual (defScope st) f cdv A outer s H E) (fun cls d _ H => E cls d H) k →
      DSs (cxOf (L2.CX P w) P w K mg base N qual (defScope st) f cdv A outer s H E) ⟨W, H⟩ (fun cls d _ H => E cls d H) (defBody st) wb) :
    FnG P w K mg base (k + 1) f fd ps wf := by
  intro A outer s H args us vs ds W μ R Z Q E hg hr e0 hbd r hlen al mm hgm da hwf hQ hE
  obtain ⟨oc, od, kV, doc, pm, an, cdv, ct, osl, rfl, lk, hcd⟩ := F.ex
  have hl : vs.length = ps.length := by rw [← da.length]; exact hlen
  have inK : K.In s.heap := e0.mod.kin.keeps fun b o q => (e0.bs b o q).1
  have noLim : s.heap.NoLimit := e0.mod.nolimit.keeps fun b o q => (e0.bs b o q).1
  have kinds : ∀ y ∈ ps.zip us, (defScope st).names.lookup y.1 = some .local ∨ ((defScope st).names.lookup y.1 = some .cell ∧ ((cellsFrom (s.heap.objs.size + 1) (defScope st).names []).lookup y.1).isSome = true) := fun ⟨n, v⟩ hy =>
    (Sc.par n (List.of_mem_zip hy).1).imp id fun q => ⟨q, PySem.W.cellsFrom_some _ _ _ (.inl q)⟩
  refine codeAny_call_function hr.depth (inK _ _ lk) rfl Sc.co Sc.gen rfl (PySem.W.codeRec_of inK hcd) (hbd _ _ _ _ ?_)
  refine wpAny_newFunctionEnv_cells Sc.kind kinds fun env he s1 xx => ?_
  subst he
  refine ⟨noLim.keeps xx.toInCall.keep, codeAny_func ?_⟩
  have I : Inv (cxOf (L2.CX P w) P w K mg base N qual (defScope st) f cdv A outer s H E) [] (L2.start N vs) H s1 := inv_start Sc hr.hd e0 hl r xx
  have C : CxG (cxOf (L2.CX P w) P w K mg base N qual (defScope st) f cdv A outer s H E) (fun cls d _ H => E cls d H) k :=
    ⟨takes_of rfl rfl rfl rfl, hg, hr.deeper _, passes_of rfl⟩
  have D := hb cdv A outer s H E W hgm C
  have body := hw Z ds μ R hlen hwf
  have ok0 := start_ok (N := N) al mm da
  refine wpAny_mono (D.run [] s1 (L2.start N vs) H { nx := fun _ H' => Q .non H', rt := Q } I ⟨W, rho0 N ds μ, _, ok0, body, fun ρ' W' σ' H' h o l => ?_, fun d ρ' W' σ' y H' h o l rr => ?_, fun _ _ _ _ q => q.elim, fun _ _ _ _ q => q.elim, fun z ρ' W' σ' H' c dx h o l ex => ?_⟩) (fun fl s' hs => ?_) fun e s' hs => hs
  · exact hQ _ _ W' _ H' h ⟨o.al, o.en, .of .non, o.mm⟩
  · exact hQ _ _ W' _ H' h ⟨o.al, o.en, rr, o.mm⟩
  · exact hE _ _ W' _ _ _ h ⟨o.al, o.en, ex, o.mm⟩
  have fin : ∀ {σ' : L2.St} {H' : Hp} {v : V} {u : Value}, Inv (cxOf (L2.CX P w) P w K mg base N qual (defScope st) f cdv A outer s H E) [] σ' H' s' → RelV v u → Q v H' → CE outer P w H s Q u s' :=
    fun {σ' H' v u} J rv q => ⟨v, H', J.os, J.bare, J.base, J.hok, rv, q⟩
  match fl, hs with
  | .ret u, ⟨v, σ', H', J, rv, q⟩ => exact fin J rv q
  | .next, ⟨σ', H', J, q⟩ => exact fin (v := V.non) (u := Value.none) J rfl q
  | .brk, ⟨_, _, _, q⟩ => exact False.elim q
  | .cont, ⟨_, _, _, q⟩ => exact False.elim q
/-- a promise told otherwise -/
theorem FnG.imp {k : Nat} {f : Addr} {fd : FuncData} {ps : List Str} {wf wf' : WF} (F : FnG P w K mg base k f fd ps wf) (h : ∀ Z ds μ R, ds.length = ps.length → wf' Z ds μ R → wf Z ds μ R) : FnG P w K mg base k f fd ps wf' :=
  fun A outer s H args us vs ds W μ R Z Q E hg hr e0 hbd r hlen al mm hgm da hwf hQ hE => F A outer s H args us vs ds W μ R Z Q E hg hr e0 hbd r hlen al mm hgm da (h Z ds μ R hlen hwf) hQ hE
theorem FnG.mono {j k : Nat} {f : Addr} {fd : FuncData} {ps : List Str} {wf : WF} (F : FnG P w K mg base j f fd ps wf) (h : j ≤ k) : FnG P w K mg base k f fd ps wf :=
  fun A outer s H args us vs ds W μ R Z Q E hg hr => F A outer s H args us vs ds W μ R Z Q E hg (hr.mono h)
end
/-! ### calls -/
section
variable {X : Cx} {G : Gx} {T : WX} {k j : Nat} {f : Addr} {fd : FuncData} {ps : List Str} {wf : WF}
theorem run_g {pins : List (Addr × Obj)} {σ : L2.St} {ρ : Rho} {W : Wd} {H : Hp} {s : Shared} {args : Args} {us : List Value} {vs : List V} {ds : List D} {R : S → Mem → Prop} {Z : Exn → Mem → Prop} {Q : VK} (C : CxG X T k) (hG : G.W.g = X.mg) (F : FnG X.prog X.w X.K X.mg X.base j f fd ps wf) (hj : j ≤ k)
    (hb : BindsTo s fd args (ps.zip us)) (I : Inv X pins σ H s) (r : Vals vs us) (hl : ds.length = ps.length) (ok : Ok X.K G W ρ σ H) (da : DnA X.K W H ds vs) (h : wf Z ds ρ.mm R)
    (hR : ∀ d μ W' x H', R d μ → Go X.K G σ ρ W H ⟨ρ.sl, μ⟩ W' H' → Res X.K H W' H' d x → Q x H') (hZ : ∀ x μ W' H' c dx, Z x μ → Go X.K G σ ρ W H ⟨ρ.sl, μ⟩ W' H' → ExAt X.K W' H' x c dx → T c dx σ H') :
    codeAny (model X.prog X.w) X.A (.call (.ref f) args) (fun r s' => match r with | .ok (.ret u) => EP X pins σ Q u s' | .ok _ => False | .error e => X.xe e s') s := by
  refine codeAny_mono (F X.A X.stack s H args us vs ds W ρ.mm R Z Q (fun c dx H' => T c dx σ H') C.gd (C.rm.mono hj) I.env0 hb r hl ok.al ok.mm (ok.en.le.g.trans hG) da h
    (fun d μ W' x H' hr rt => hR d μ W' x H' hr (ok.grow rt.stp rt.al rt.mm) rt.res) fun x μ W' H' c dx hz rt => hZ x μ W' H' c dx hz (ok.grow rt.stp rt.al rt.mm) rt.ex) fun r s' hq => ?_
  match r, hq with
  | .error e, hq => exact C.tk e s' (XE.of_call (W := T) I (fun _ _ _ q => q) hq)
  | .ok (.ret u), hq => exact I.after hq
/-- f(..): the arguments, then the def -/
def wCall (n : Nat) (wf : WF) (u : WA) : WE := fun Z ρ R => u Z ρ fun ds ρ1 => ds.length = n ∧ wf (fun x μ => Z x ⟨ρ1.sl, μ⟩) ds ρ1.mm fun s μ => R s ⟨ρ1.sl, μ⟩
theorem wp_call {pins : List (Addr × Obj)} {σ : L2.St} {H : Hp} {s : Shared} {Q : VK} {us : List Value} {vs : List V} {W : Wd} {ρ : Rho} {ds : List D} {R : S → Mem → Prop} {Z : Exn → Mem → Prop} (C : CxG X T k) (hG : G.W.g = X.mg) (F : FnG X.prog X.w X.K X.mg X.base j f fd ps wf) (hj : j ≤ k) (hb : Binds X.K fd ps [])
    (I : Inv X pins σ H s) (r : Vals vs us) (hl : ds.length = ps.length) (ok : Ok X.K G W ρ σ H) (da : DnA X.K W H ds vs) (h : wf Z ds ρ.mm R)
    (hR : ∀ d μ W' x H', R d μ → Go X.K G σ ρ W H ⟨ρ.sl, μ⟩ W' H' → Res X.K H W' H' d x → Q x H') (hZ : ∀ x μ W' H' c dx, Z x μ → Go X.K G σ ρ W H ⟨ρ.sl, μ⟩ W' H' → ExAt X.K W' H' x c dx → T c dx σ H') :
    wpAny (model X.prog X.w) X.A (call (.ref f) us) (EP X pins σ Q) X.xe s := by
  have e : (us ++ ([] : List Value)).length = ps.length := by rw [List.append_nil, ← r.length, ← da.length]; exact hl
  have hb' := hb s us I.kIn e
  rw [List.append_nil] at hb'
  refine wpAny_call (codeAny_mono (run_g C hG F hj hb' I r hl ok da h hR hZ) fun r s' hq => ?_)
  match r, hq with
  | .error e, hq => exact hq
  | .ok (.ret u), hq => exact hq
theorem de_call {x : Str} {p pos : Pos} {e : Expr} {es : List Expr} {u : WA} (C : CxG X T k) (hG : G.W.g = X.mg) (F : FnG X.prog X.w X.K X.mg X.base j f fd ps wf) (hj : j ≤ k) (hm : X.mg x = some (.ref f)) (hk : PySem.W.keepIn X.K (.ref f) = true) (hb : Binds X.K fd ps [])
    (ha : DA X G T (e :: es) u) (hg : Gl X x := by rfl) (hdb : (x == ("__debug__" : Str)) = false := by decide) (he : starEach (e :: es) X.env = (false, eval e X.env) :: starEach es X.env := by rfl) (hpl : (backTo pos (starEach es X.env)).any (·.1) = false := by rfl) :
    DE X G T (.Call (.Name x p) (e :: es) [] pos) (wCall ps.length wf u) := by
  refine ⟨fun pins s σ H Q I ⟨W, ρ, R, Z, ok, h, hR, hZ⟩ => ?_⟩
  refine wpAny_Call_Name_kw (ld_glob I hg hm ?_ hdb)
  have args : lA X.K G T u σ H fun vs H1 => ∃ ds W1 ρ1, Go X.K G σ ρ W H ρ1 W1 H1 ∧ DnA X.K W1 H1 ds vs ∧ ds.length = ps.length ∧ wf (fun x μ => Z x ⟨ρ1.sl, μ⟩) ds ρ1.mm fun s μ => R s ⟨ρ1.sl, μ⟩ :=
    ⟨W, ρ, _, Z, ok, h, fun ds ρ1 W1 xs H1 ⟨h1, h2⟩ g d => ⟨ds, W1, ρ1, g, d, h1, h2⟩, hZ⟩
  refine PySem.W.callWith_K (h₀ := X.base) I.ok.mod.kin hk (thn (ha.run pos pins s σ H _ I args) fun us s1 ⟨vs, H1, I1, r, ds, W1, ρ1, g, d, h1, h2⟩ => ⟨I1.kIn, ?_⟩) he hpl
  exact wp_call C hG F hj hb I1 r h1 g.ok d h2 (fun d μ W' x H' hr g' rs => hR d _ W' x H' hr (g.trans g') (rs.up g.stp.up)) fun x μ W' H' c dx hz g' ex => hZ x _ W' H' c dx hz (g.trans g') ex
end
/-! ### the law -/
/-- what the tables of the laws' lambdas ask of the start -/
structure TabsAt (K : PySem.W.Frag) (h : Heap) : Prop where
  at_ : ∀ x c P, x ∈ lamDefs → PySem.W.tabIn K x = some (c, P) → PySem.W.CodeHd h c P ∧ h.get? P = some { cls := .none, data := .fields #[] }
  no : ∀ P q, (P, q) ∈ lamTabs K → K.lookup P = none
  nd : ∀ P q q', (P, q) ∈ lamTabs K → (P, q') ∈ lamTabs K → q' = q
/-- .. of the base -/
def TabsB (K : PySem.W.Frag) (mg : Str → Option Value) (base : Heap) : Prop := ∀ x c P, x ∈ lamDefs → PySem.W.tabIn K x = some (c, P) → LamX.TabB base mg c P
theorem lamTabs_mem {K : PySem.W.Frag} {P : Addr} {q : Str} (h : (P, q) ∈ lamTabs K) : ∃ x c, x ∈ lamDefs ∧ PySem.W.tabIn K x = some (c, P) ∧ q = x ++ ".<locals>." ++ "<lambda>" := by
  unfold lamTabs at h
  obtain ⟨x, h1, h2⟩ := List.mem_filterMap.mp h
  cases e : PySem.W.tabIn K x with
  | none => rw [e] at h2; cases h2
  | some p => rw [e] at h2; cases h2; exact ⟨x, p.1, h1, e, rfl⟩
theorem tabsAt_of {K : PySem.W.Frag} {h : Heap} {p : Program} {loose : List Str} {mean : PySem.ExcName → Option Value} {mg mb : Str → Option Value} (T : PyProof.Rows.Top p loose mean mg mb h) (X : K.In h)
    (hb : tabsB K = true) (hr : (lamDefs.all fun x => (PySem.W.tabIn K x).isNone || ((PyProof.Rows.recsOf p).find? fun e => e.name == x).isSome) = true) : TabsAt K h := by
  unfold tabsB at hb
  obtain ⟨hb1, hb2⟩ := Bool.and_eq_true_iff.mp hb
  refine ⟨fun x c P hx ht => ?_, fun P q h => ?_, fun P q q' h1 h2 => nodupB_ok hb2 P q q' h1 h2⟩
  · have z := List.all_eq_true.mp hr x hx
    rw [ht] at z
    obtain ⟨d, hd⟩ := Option.isSome_iff_exists.mp (show ((PyProof.Rows.recsOf p).find? fun e => e.name == x).isSome = true by simpa using z)
    exact PySem.W.tab_of T X hd ht
  · obtain ⟨x, c, hx, ht, _⟩ := lamTabs_mem h
    have z := List.all_eq_true.mp hb1 x hx
    rw [ht] at z
    simpa using z
open PyProof.Rows in
theorem law_g {P : Program} {w : World} {K : PySem.W.Frag} {mg mb : Str → Option Value} {k : Nat} {fa a : Addr} {fd : FuncData} {x : Str} {wf : WF} {t0 : Shared} {vs : List Value} {ns : List Int}
    (KX : K.In t0.heap) (hns : t0.heap.Ns mainGlobals mg) (hb : t0.heap.Ns builtinsNs mb) (hbb : ∀ x : Str, x ≠ "__name__" → mb x = bootBuiltins x) (hlim : t0.heap.NoLimit) (hg : t0.gens = #[]) (TA : TabsAt K t0.heap)
    (hbm : ∃ (bm : Addr) (ob : Obj), mg "__builtins__" = some (.ref bm) ∧ bm ≠ builtinsNs ∧ t0.heap.get? bm = some ob ∧ ob.cls = .type "module" ∧ ob.dict = some builtinsNs ∧ ob.data = .plain)
    (ha : t0.heap.get? a = some { cls := .type "list", data := .seq vs.toArray }) (hi : IntsAre vs ns) (hl : ns.length ≤ sizeLine) (hr : Room k callerA)
    (F : ∀ base : Heap, K.In base → base.Ns mainGlobals mg → TabsB K mg base → FnG P w K mg base k fa fd [x] wf) (hbind : ∀ (s : Shared) (u : Value), BindsTo s fd ⟨[u], []⟩ [(x, u)])
    (hwf : wf (fun _ _ => False) [.rls (ns.map .int)] [] fun s _ => s = .d (.bl true)) :
    codeAny (model P w) callerA (.call (.ref fa) ⟨[.ref a], []⟩) (fun r s' => r = .ok (.ret (.bool true)) ∧ OldK t0.heap s'.heap ∧ s'.os = t0.os ∧ AllBare s'.gens) t0 := by
  have rv := vals_ints hi
  have lenV := hi.length
  have isT : ∀ b q, (b, q) ∈ lamTabs K → (∃ c, PySem.W.CodeHd t0.heap c b) ∧ t0.heap.get? b = some { cls := .none, data := .fields #[] } := fun b q hb => by
    obtain ⟨y, c, h1, h2, _⟩ := lamTabs_mem hb
    exact ⟨⟨c, (TA.at_ y c b h1 h2).1⟩, (TA.at_ y c b h1 h2).2⟩
  have aT : ∀ q, (a, q) ∉ lamTabs K := fun q z => by
    have q := (isT a q z).2
    rw [ha] at q
    have z' : Data.seq vs.toArray _ = Data.fields #[] := congrArg Obj.data (Option.some.inj q)
    cases z'
  -- the heap in which the script and the tables alone may be told
  have main : ∀ (H : Hp) (W : Wd), (∀ b q, (b, q) ∈ lamTabs K → H b = some (.tbl #[])) → (∀ b, H b = none ∨ (∃ q, (b, q) ∈ lamTabs K) ∨ ∃ o xs, H b = some (.frz o (.lst xs))) → W.C = [] → W.g = mg → W.T = (fun b q => (b, q) ∈ lamTabs K) → Al W H → SeqL K W H a (ns.map V.int) → HOk P w H t0.heap → (∀ b, H b ≠ none → b = a ∨ ∃ q, (b, q) ∈ lamTabs K) → (H a ≠ none → K.lookup a = none) →
      codeAny (model P w) callerA (.call (.ref fa) ⟨[.ref a], []⟩) (fun r s' => r = .ok (.ret (.bool true)) ∧ OldK t0.heap s'.heap ∧ s'.os = t0.os ∧ AllBare s'.gens) t0 := by
    intro H W hT only eC eg eT al sq hok isA noK
    have base_of : ∀ {b : Addr} {o : Obj}, t0.heap.get? b = some o → H b = none → (hidT t0.heap H).get? b = some o := fun e n => hidT_get e n
    have noD : ∀ {b : Addr} {o : Obj}, t0.heap.get? b = some o → (∀ vs n, o.data ≠ .seq vs n) → o.data ≠ .fields #[] → H b = none := fun {b o} e h1 h2 => by
      cases q : H b with
      | none => rfl
      | some u =>
        rcases isA b (by rw [q]; simp) with e' | ⟨q', e'⟩
        · rw [e', ha] at e
          cases e
          exact (h1 _ _ rfl).elim
        · rw [(isT b q' e').2] at e
          cases e
          exact (h2 rfl).elim
    have noA : ∀ {b : Addr} {o : Obj} {es : Array DictEntry} {ep : Nat}, t0.heap.get? b = some o → o.data = .dict es ep → H b = none := fun {b o es ep} e d => by
      refine noD e (fun vs n z => ?_) fun z => ?_
      · rw [d] at z
        cases z
      · rw [d] at z
        cases z
    have nsK : ∀ {b : Addr} {m : Str → Option Value}, t0.heap.Ns b m → (hidT t0.heap H).Ns b m := fun {b m} ⟨o, es, ep, e, d, rr⟩ => ⟨o, es, ep, base_of e (noA e d), d, rr⟩
    have kin : K.In (hidT t0.heap H) := fun b o e => base_of (KX b o e) (by
      cases q : H b with
      | none => rfl
      | some u =>
        rcases isA b (by rw [q]; simp) with e' | ⟨q', e'⟩
        · rw [e'] at e q
          rw [noK (by rw [q]; simp)] at e
          cases e
        · rw [TA.no b q' e'] at e
          cases e)
    have M : Mod K mg (hidT t0.heap H) := ⟨kin, nsK hns, ⟨mb, nsK hb, hbb⟩, let ⟨mc, h1, h2⟩ := hlim; ⟨mc, nsK h1, h2⟩⟩
    have TB : TabsB K mg (hidT t0.heap H) := fun y c p hy ht => by
      obtain ⟨hC, hTp⟩ := TA.at_ y c p hy ht
      refine ⟨?_, ?_, fun z => ?_⟩
      · obtain ⟨o, us, file, tf, flags, tg, inF, text, tt, e1, r1, r2, r3, r4, r5, r6, r7, r8, hne⟩ := hC
        refine ⟨o, us, file, tf, flags, tg, inF, text, tt, base_of e1 (noD e1 (fun vs n z => ?_) fun z => ?_), r1, r2, r3, r4, r5, r6, r7, r8, hne⟩
        · rw [r2] at z
          cases z
        · rw [r2] at z
          cases z
          simp at r3
      · obtain ⟨bm, ob, b1, b2, b3, b4, b5, b6⟩ := hbm
        have nG : bm ≠ mainGlobals := fun q => by
          obtain ⟨o, es, ep, e, hd, _⟩ := hns
          rw [q, e] at b3
          cases b3
          rw [hd] at b6
          cases b6
        have nP : bm ≠ p := fun q => by
          rw [q, hTp] at b3
          cases b3
          cases b6
        refine ⟨bm, ob, b1, b2, nG, nP, base_of b3 (noD b3 (fun vs n z => ?_) fun z => ?_), b4, b5, b6⟩
        · rw [b6] at z
          cases z
        · rw [b6] at z
          cases z
      · obtain ⟨o, es, ep, e, hd, _⟩ := hns
        rw [z, hTp] at e
        cases e
        cases hd
    have env : Env0 P w K mg (hidT t0.heap H) callerA [] t0 H := ⟨rfl, M, fun b o e => of_hidT e, Nat.le_of_eq (hidT_size _ _), trivial, fun b hb => absurd (show b ∈ ([] : List Addr) from hb) (by simp), hok, .of_eq hg⟩
    refine codeAny_mono (F _ kin (nsK hns) TB callerA [] t0 H ⟨[.ref a], []⟩ [.ref a] [.ref a] [.rls (ns.map .int)] W [] _ _ (fun v _ => v = .bl true) (fun _ _ _ => False) rfl hr env (hbind t0 (.ref a)) (.cons rfl .nil) rfl al
      ⟨by rw [eC]; rfl, fun P q h => by rw [eT]; exact ⟨h, fun q' h' => TA.nd P q q' h h'⟩, fun i c b e => by simp at e⟩ eg (.cons (.rls sq (.of_int ns)) .nil) hwf (fun d _ W' y H' e rt => ?_) fun _ _ _ _ _ _ q => q.elim) fun r s' h => ?_
    · subst e
      have q : Dn K W' H' (.bl true) y := rt.res.rs
      cases q
      rfl
    · match r, h with
      | .error e, h => obtain ⟨_, _, _, _, _, _, _, _, _, _, _, _, z⟩ := h; exact z.elim
      | .ok (.ret u), ⟨v, H', os, bare, un, hok', rr, q⟩ =>
        subst q
        obtain rfl : u = Value.bool true := rr
        have key : ∀ b o, (∀ q, (b, q) ∉ lamTabs K) → t0.heap.get? b = some o → s'.heap.get? b = some o := fun b o nb e => by
          cases q : H b with
          | none => exact un.keep b o e q (by intro z; exact absurd (show b ∈ ([] : List Addr) from z) (by simp)) (by simp)
          | some u =>
            rcases only b with z | ⟨q', z⟩ | ⟨ob, xs, z⟩
            · rw [q] at z; cases z
            · exact absurd z (nb q')
            · obtain ⟨e1, _⟩ := hok b _ z
              obtain ⟨e2, _⟩ := hok' b _ (un.frzs b ob _ z)
              rw [e] at e1; cases e1
              exact e2
        have grown : ∀ b q, (b, q) ∈ lamTabs K → ∃ more : Array Value, s'.heap.get? b = some { cls := .none, data := .fields more } := fun b q hb => by
          obtain ⟨more, z⟩ := un.tbls b #[] (hT b q hb)
          exact ⟨_, hok' b _ z⟩
        refine ⟨rfl, ⟨fun b o e => ?_, fun b o e => ?_⟩, os, bare⟩
        · by_cases hb : ∃ q, (b, q) ∈ lamTabs K
          · obtain ⟨q, hb⟩ := hb
            obtain ⟨more, hm⟩ := grown b q hb
            obtain ⟨⟨c, hC⟩, hTb⟩ := isT b q hb
            rw [hTb] at e
            cases e
            exact .inr (.inl ⟨(hC.tab hTb).isCodeTable, rfl, #[], more, rfl, by rw [Array.empty_append]; exact hm⟩)
          · exact .inl (key b o (fun q z => hb ⟨q, z⟩) e)
        · by_cases hb : ∃ q, (b, q) ∈ lamTabs K
          · obtain ⟨q, hb⟩ := hb
            obtain ⟨more, hm⟩ := grown b q hb
            exact ⟨_, hm⟩
          · exact ⟨o, key b o (fun q z => hb ⟨q, z⟩) e⟩
  have jt : ∀ (W : Wd) (H : Hp), W.T = (fun b q => (b, q) ∈ lamTabs K) → (∀ b q, (b, q) ∈ lamTabs K → H b = some (.tbl #[])) → ∀ b, (∃ q, (b, q) ∈ lamTabs K) → JarAt W H b := fun W H eT hT b ⟨q, hb⟩ =>
    .inl ⟨⟨q, by rw [eT]; exact hb⟩, fun q' hq' => ⟨#[], hT b q hb, True.intro, fun pos cv hc => by
      have z : codeAmong pos [] = some cv := hc
      simp [codeAmong] at z⟩⟩
  classical
  cases hk : K.lookup a with
  | some o =>
    have e := KX a o hk
    rw [ha] at e
    cases e
    have hT : ∀ b q, (b, q) ∈ lamTabs K → (fun b => if ∃ q, (b, q) ∈ lamTabs K then some (HO.tbl #[]) else none : Hp) b = some (.tbl #[]) := fun b q h => if_pos ⟨q, h⟩
    refine main (fun b => if ∃ q, (b, q) ∈ lamTabs K then some (.tbl #[]) else none) ⟨fun _ => False, fun b => ∃ q, (b, q) ∈ lamTabs K, [], mg, fun b q => (b, q) ∈ lamTabs K⟩ hT (fun b => ?_) rfl rfl rfl
      ⟨fun _ q => q.elim, jt _ _ rfl hT, fun _ _ q => q.elim, fun _ q => absurd q (by simp), by simp, fun P q h => ⟨q, h⟩⟩ (.inr ⟨_, vs.toArray, _, hk, rfl, rfl, rfl, by rw [List.size_toArray, lenV]; exact hl, by simpa using rv⟩) (fun b u z => ?_) (fun b z => ?_) fun z => absurd (if_neg fun ⟨q, h⟩ => aT q h) z
    · by_cases hb : ∃ q, (b, q) ∈ lamTabs K
      · exact .inr (.inl hb)
      · exact .inl (if_neg hb)
    · by_cases hb : ∃ q, (b, q) ∈ lamTabs K
      · cases (if_pos hb).symm.trans z
        obtain ⟨q, hb⟩ := hb
        exact (isT b q hb).2
      · cases (if_neg hb).symm.trans z
    · by_cases hb : ∃ q, (b, q) ∈ lamTabs K
      · exact .inr hb
      · exact absurd (if_neg hb) z
  | none =>
    have hT : ∀ b q, (b, q) ∈ lamTabs K → (fun b => if b = a then some (.frz { cls := .type "list", data := .seq vs.toArray } (.lst (ns.map V.int))) else if ∃ q, (b, q) ∈ lamTabs K then some (HO.tbl #[]) else none : Hp) b = some (.tbl #[]) := fun b q h =>
      (if_neg (show ¬ b = a from fun z => aT q (by rw [← z]; exact h))).trans (if_pos ⟨q, h⟩)
    refine main (fun b => if b = a then some (.frz { cls := .type "list", data := .seq vs.toArray } (.lst (ns.map V.int))) else if ∃ q, (b, q) ∈ lamTabs K then some (.tbl #[]) else none) ⟨fun b => b = a, fun b => ∃ q, (b, q) ∈ lamTabs K, [], mg, fun b q => (b, q) ∈ lamTabs K⟩ hT (fun b => ?_) rfl rfl rfl
      ⟨fun b q => ⟨_, if_pos q⟩, jt _ _ rfl hT, fun b ⟨q, h⟩ z => aT q (by rw [← (show b = a from z)]; exact h), fun _ q => absurd q (by simp), by simp, fun P q h => ⟨q, h⟩⟩ (.inl ⟨rfl, .inr ⟨{ cls := .type "list", data := .seq vs.toArray }, if_pos rfl⟩⟩) (fun b u z => ?_) (fun b z => ?_) fun _ => hk
    · by_cases q : b = a
      · exact .inr (.inr ⟨_, _, if_pos q⟩)
      · by_cases hb : ∃ q, (b, q) ∈ lamTabs K
        · exact .inr (.inl hb)
        · exact .inl ((if_neg q).trans (if_neg hb))
    · by_cases q : b = a
      · cases (if_pos q).symm.trans z
        subst q
        exact ⟨ha, by rw [List.length_map]; exact hl, vs, _, rv, ha⟩
      · have z1 := (if_neg q).symm.trans z
        by_cases hb : ∃ q, (b, q) ∈ lamTabs K
        · cases (if_pos hb).symm.trans z1
          obtain ⟨q, hb⟩ := hb
          exact (isT b q hb).2
        · cases (if_neg hb).symm.trans z1
    · by_cases q : b = a
      · exact .inl q
      · have z1 : ¬ (if ∃ q, (b, q) ∈ lamTabs K then some (HO.tbl #[]) else none) = none := fun z2 => z ((if_neg q).trans z2)
        by_cases hb : ∃ q, (b, q) ∈ lamTabs K
        · exact .inr hb
        · exact absurd (if_neg hb) z1
open PyProof.Rows in
/-- the goal that k_head leaves -/
theorem walk_g {l : PySem.W.OpenLaw} {n k : Nat} {q : Program} {loose : List Str} {XP : (Str → Option Value) → Heap → Prop} {YP : World → Heap → Prop} {d : DefRec} {K : Params → PySem.W.Frag} {wf : WF} {x : Str}
    (hn : l.most = some n) (hn2 : n ≤ sizeLine) (hdf : d.params.defaults = []) (hr : Room k callerA) (hY : ∀ (w : World) (h : Heap), YP w h → (K w.params).In h)
    (hT : ∀ w : World, tabsB (K w.params) = true ∧ (lamDefs.all fun x => (PySem.W.tabIn (K w.params) x).isNone || ((PyProof.Rows.recsOf q).find? fun e => e.name == x).isSome) = true)
    (F : ∀ (w : World) (mg : Str → Option Value) (fa : Addr) (h : Heap), (K w.params).In h → h.Ns mainGlobals mg → mg d.name = some (.ref fa) →
      ∃ fd : FuncData, (∀ (s : Shared) (u : Value), BindsTo s fd ⟨[u], []⟩ [(x, u)]) ∧ ∀ base : Heap, (K w.params).In base → base.Ns mainGlobals mg → TabsB (K w.params) mg base → FnG l.prog w (K w.params) mg base k fa fd [x] wf)
    (hwf : ∀ ns : List Int, ns.length ≤ n → wf (fun _ _ => False) [.rls (ns.map .int)] [] fun s _ => s = .d (.bl true)) : PySem.W.WalkO q loose XP YP l.row.toRowW d [] (fun f vs => PySem.call f vs) := by
  refine Att.attach_call hn hdf fun w s₀ t0 mg mb fa o pm cd doc a vs ns Gr Y ho hd hcd hmg hobj hints hlen hg => ?_
  obtain ⟨fd, hb, hF⟩ := F w mg fa _ (hY w _ Y) Gr.T.g hmg
  exact law_g (hY w _ Y) Gr.T.g Gr.T.b Gr.T.builtins Gr.T.nolimit hg (tabsAt_of Gr.T (hY w _ Y) (hT w).1 (hT w).2) Gr.T.bmain hobj hints (Nat.le_trans hlen hn2) hr hF hb (hwf ns hlen)
end DL


/-! DL5: own lists, own dicts and jars in slots: read without being frozen, changed. -/
namespace DL
open PySem PySem.Spec L2
section
variable {K : PySem.W.Frag} {G : Gx} {T : WX} {σ : L2.St} {ρ ρ1 : Rho} {W W1 : Wd} {H H1 : Hp}
/-- what slot i denotes now -/
theorem Ok.look (ok : Ok K G W ρ σ H) {i : Nat} {s : S} (h : ρ.sl[i]? = some (some s)) : ∃ x W', σ[i]? = some (some x) ∧ Dn K W' H s.frz x ∧ Rs K W H s x := by
  obtain ⟨x, W2, e, g, d⟩ := ok.freezeSlot h
  obtain ⟨y, e2, r⟩ := ok.val i s h
  rw [e] at e2; cases e2
  exact ⟨x, W2, e, d, r⟩
/-- the items of a slot's list or tuple, told in the world as it is -/
theorem Rs.seq {s : S} {x : V} {ds : List D} (h : Rs K W H s x) (e : s.frz.items = some ds) : ∃ p vs, x = .ref p ∧ (SqL K H p vs ∨ SqT K H p vs) ∧ DnA K W H ds vs := by
  cases s with
  | d d => exact Dn.seq (K := K) h e
  | own es => cases e; obtain ⟨p, vs, a, b, c⟩ := h; exact ⟨p, vs, a, .inl (SqL.of b), c⟩
  | odic es => cases e
  | ldic es => cases e
  | oins _ C es => cases e
/-- an own object is written in its slot -/
theorem Ok.wslot (ok : Ok K G W ρ σ H) {i : Nat} {s s' : S} {p : Addr} {o : HO} (h : ρ.sl[i]? = some (some s)) (e : σ[i]? = some (some (.ref p))) (hs : s.isOwn = true) (hs' : s'.isOwn = true) (hr : Rs K W (upd H p o) s' (.ref p)) :
    Go K G σ ρ W H (ρ.set i (some s')) W (upd H p o) := by
  have hO : Ow ρ σ p := ⟨i, s, h, hs, e⟩
  obtain ⟨nf, nj, nc, h0⟩ := ok.frs p hO
  obtain ⟨u, hu⟩ := ok.here hO
  have l : Le W H W (upd H p o) := .same fun a q => upd_ne fun z => nf (by rw [← z]; exact q)
  have kc : ∀ a ∈ W.C, upd H p o a = H a := fun a q => upd_ne fun z => nc (by rw [← z]; exact q)
  have hi : i < ρ.sl.length := (List.getElem?_eq_some_iff.mp h).1
  have sub : ∀ a, Ow (ρ.set i (some s')) σ a → Ow ρ σ a := fun a ⟨j, d, d1, d2, d3⟩ => by
    rcases set_get d1 with ⟨z1, z2⟩ | ⟨z1, z2⟩
    · subst z1; rw [e] at d3; cases d3; exact hO
    · exact ⟨j, d, z2, d2, d3⟩
  have al : Al W (upd H p o) := ⟨fun a q => by rw [l.k a q]; exact ok.al.f a q, fun a q => (ok.al.j a q).le l (upd_ne fun z => nj (by rw [← z]; exact q)), ok.al.d, fun a q => ⟨(ok.al.c a q).1, (ok.al.c a q).2.1, by rw [kc a q]; exact (ok.al.c a q).2.2⟩, ok.al.nd, ok.al.t⟩
  have up : ∀ a, upd H p o a = none → H a = none := fun a q => by
    by_cases z : a = p
    · subst z; rw [upd_same] at q; cases q
    · rwa [upd_ne z] at q
  refine ⟨⟨ok.len.trans List.length_set.symm, fun j d hj => ?_, fun a q => ok.frs a (sub a q), fun j m d d' a h1 h2 o1 o2 s1 s2 => ?_, al, ⟨ok.en.le.trans l, ok.en.nF, ok.en.nJ, ok.en.nC, fun a v hv nj' nc' no => ?_, fun a q => ok.en.up a (up a q)⟩, ok.mm.keep l rfl kc⟩, ⟨l, fun _ q => .inl q, fun _ q => .inl q, fun _ q => .inl q, fun a v hv nj' nc' no => ?_, up⟩, sub⟩
  · rcases set_get hj with ⟨z1, z2⟩ | ⟨z1, z2⟩
    · cases z2; subst z1; exact ⟨_, e, hr⟩
    · obtain ⟨y, e1, e2⟩ := ok.val j d z2
      refine ⟨y, e1, e2.le l fun od q eq => upd_ne fun z => z1 ?_⟩
      subst eq z
      exact ok.inj i j s d q h z2 hs od e e1
  · rcases set_get h1 with ⟨z1, z2⟩ | ⟨z1, z2⟩
    · subst z1; cases z2; rw [e] at s1; cases s1
      rcases set_get h2 with ⟨y1, y2⟩ | ⟨y1, y2⟩
      · exact y1
      · exact ok.inj i m s d' p h y2 hs o2 e s2
    · rcases set_get h2 with ⟨y1, y2⟩ | ⟨y1, y2⟩
      · subst y1; cases y2; rw [e] at s2; cases s2
        exact ok.inj j i d s p z2 h o1 hs s1 e
      · exact ok.inj j m d d' a z2 y2 o1 o2 s1 s2
  · rw [upd_ne (ne_of_none hv h0)]; exact ok.en.st a v hv nj' nc' no
  · rw [upd_ne fun z => no (by rw [z]; exact hO)]; exact hv
/-- a jar is written -/
theorem Ok.wjar (ok : Ok K G W ρ σ H) {p : Addr} {x y z : Int} (h : W.J p) (nt : ∀ q, ¬ W.T p q) (b : -(2 ^ 40) < y ∧ y < 2 ^ 40) : Go K G σ ρ W H ρ W (upd H p (.lst [.int x, .int y, .int z])) := by
  obtain ⟨x0, y0, z0, e0, _⟩ := (ok.al.j p h).jar nt
  have l : Le W H W (upd H p (.lst [.int x, .int y, .int z])) := .same fun a q => upd_ne fun z => ok.al.d p h (by rw [← z]; exact q)
  have kc : ∀ a ∈ W.C, upd H p (.lst [.int x, .int y, .int z]) a = H a := fun a q => upd_ne fun z => (ok.al.c a q).2.1 (by rw [z]; exact h)
  refine ok.grow0 ⟨.same fun a q => upd_ne fun z => ok.al.d p h (by rw [← z]; exact q), fun _ q => .inl q, fun _ q => .inl q, fun _ q => .inl q, fun a v hv nj _ _ => by rw [upd_ne (fun z => nj (by rw [z]; exact h))]; exact hv, fun a q => ?_⟩ ⟨fun a q => ?_, fun a q => ?_, ok.al.d, fun a q => ⟨(ok.al.c a q).1, (ok.al.c a q).2.1, by rw [kc a q]; exact (ok.al.c a q).2.2⟩, ok.al.nd, ok.al.t⟩ rfl kc
  · by_cases z : a = p
    · subst z; rw [upd_same] at q; cases q
    · rwa [upd_ne z] at q
  · rw [upd_ne fun z => ok.al.d p h (by rw [← z]; exact q)]; exact ok.al.f a q
  · by_cases w : a = p
    · subst w; exact .inr ⟨nt, x, y, z, upd_same, b⟩
    · exact (ok.al.j a q).le l (upd_ne w)
end
section
variable {X : Cx} {G : Gx} {T : WX} {a b c e : Expr} {w wa wb : WE} {pos p apos cpos : Pos} {i : Nat}
/-! ### x[k], x a slot -/
def wIxV (i : Nat) (wk : WE) : WE := fun Z ρ R => (∃ s0, ρ.sl[i]? = some (some s0)) ∧ wk Z ρ fun k ρ1 => match ρ1.sl[i]? with
  | some (some s) => fIx s.frz k.frz fun z => R z ρ1
  | _ => False
theorem de_ixV (i : Nat) {x : Str} (hb : DE X G T b wb) (hN : X.N[i]? = some x := by rfl) (hv : Vis X.env.scope x := by first | exact Or.inl rfl | exact Or.inr (Or.inl rfl) | exact Or.inr (Or.inr rfl)) (hd : (x == ("__debug__" : Str)) = false := by decide)
    (hcd : (x == ("__classdict__" : Str)) = false := by decide) (hs : PlainIx b := by intro _ _; rfl) : DE X G T (.Subscript (.Name x p) b pos) (wIxV i wb) :=
  pe_weak (pe_ix ix_seq (pv i hN hv hd hcd) hb hs) fun σ H Q ⟨W, ρ, R, Z, ok, ⟨⟨s0, e0⟩, h⟩, hR, hZ⟩ => by
    obtain ⟨x, _, ex, _⟩ := ok.look e0
    refine ⟨x, ex, ?_⟩
    refine lE_then (R := fun k ρ1 => match ρ1.sl[i]? with | some (some s) => fIx s.frz k fun z => R z ρ1 | _ => False) ok h hZ fun k ρ1 W1 y H1 h1 g1 d1 => ?_
    split at h1
    · rename_i s e1
      obtain ⟨x', e2, r⟩ := g1.ok.val i s e1
      rw [ex] at e2; cases e2
      cases s with
      | d d => exact od_ix G W1 ρ1 σ H1 d k x y _ Q g1.ok r d1 h1 fun z W' v H' hz g2 r2 => hR z ρ1 W' v H' hz (g1.trans g2) (r2.up g1.stp.up)
      | own es =>
        obtain ⟨q, vs, rfl, hq, da⟩ := r
        cases d1 <;> first | exact h1.elim | skip
        rename_i j
        obtain ⟨es', z, f1, f2, f3⟩ := h1
        cases f1
        obtain ⟨v, e3, e4⟩ := da.atI f2
        exact .inl ⟨q, vs, j, v, rfl, rfl, SqL.of hq, e3, hR _ ρ1 W1 v H1 f3 g1 (.of e4)⟩
      | odic es => cases d1 <;> first | exact h1.elim | (obtain ⟨_, _, f1, _⟩ := h1; cases f1)
      | ldic es => cases d1 <;> first | exact h1.elim | (obtain ⟨_, _, f1, _⟩ := h1; cases f1)
      | oins _ C es => cases d1 <;> first | exact h1.elim | (obtain ⟨_, _, f1, _⟩ := h1; cases f1)
    · exact h1.elim
/-! ### len(x), x a slot -/
/-! ### pure tests with a slot on the left (right) -/
/-! ### x.append(e) -/
def wApp (i : Nat) (w : WE) : WS := fun E ρ => (∃ d0, ρ.sl[i]? = some (some (.own d0))) ∧ w E.ex ρ fun d ρ1 => match ρ1.sl[i]? with
  | some (some (.own ds)) => ds.length < sizeLine ∧ E.nx (ρ1.set i (some (.own (ds ++ [d.frz]))))
  | _ => False
section
variable {x : Str} (hN : X.N[i]? = some x := by rfl) (hv : Vis X.env.scope x := by first | exact Or.inl rfl | exact Or.inr (Or.inl rfl) | exact Or.inr (Or.inr rfl)) (hd : (x == ("__debug__" : Str)) = false := by decide) (hcd : (x == ("__classdict__" : Str)) = false := by decide)
theorem ds_app (i : Nat) (he : DE X G T e w) (hN : X.N[i]? = some x := by rfl) (hv : Vis X.env.scope x := by first | exact Or.inl rfl | exact Or.inr (Or.inl rfl) | exact Or.inr (Or.inr rfl)) (hd : (x == ("__debug__" : Str)) = false := by decide) (hcd : (x == ("__classdict__" : Str)) = false := by decide)
    (hst : starEach [e] X.env = (false, eval e X.env) :: starEach [] X.env := by rfl)
    (hbase : attributeBase (.Name x p) "append" X.env (eval (.Name x p) X.env) = eval (.Name x p) X.env := by rfl)
    (hfew : ((backTo cpos (starEach (e :: []) X.env)).all (fun x => !x.1) && (backToKw cpos (keywordEach [] X.env)).all (fun x => x.1.isSome) && decide ((e :: []).length + ([] : List Keyword).length + (if ([] : List Keyword).isEmpty then 0 else 1) < 30)) = true := by rfl)
    (hline : (apos.endLine == cpos.line) = true := by rfl) (hs : swapsWith (.Call (.Attribute (.Name x p) "append" apos) [e] [] cpos) none pos.line X.env = pure false := by rfl) :
    DS X G T (.Expr (.Call (.Attribute (.Name x p) "append" apos) [e] [] cpos) pos) (wApp i w) :=
  ps_weak (ps_expr (pe_bm PySem.F.plainAttrs_list PySem.F.slot_list_append PySem.F.type_list_append mt_append (pv i hN hv hd hcd) (pa_cons he pa_nil hst) hbase hfew hline hst rfl) hs) fun D σ H ⟨W, ρ, E, ok, ⟨⟨d0, e0⟩, h⟩, hn, hr, hb, hc, hx⟩ => by
    obtain ⟨y, ey, ⟨q, vs0, rfl, hq, _⟩⟩ := ok.val i _ e0
    refine ⟨_, ey, .inl ⟨rfl, vs0, SqL.of hq⟩, ?_⟩
    refine lE_then (R := fun d ρ1 => match ρ1.sl[i]? with | some (some (.own ds)) => ds.length < sizeLine ∧ E.nx (ρ1.set i (some (.own (ds ++ [d])))) | _ => False) ok h (hx.z σ ρ) fun d ρ1 W1 x1 H1 h1 g1 d1 => ?_
    split at h1
    · rename_i ds e1
      obtain ⟨y1, ey1, ⟨q1, vs, rfl, hq1, da⟩⟩ := g1.ok.val i _ e1
      rw [ey] at ey1; cases ey1
      have nf := (g1.ok.frs q ⟨i, _, e1, rfl, ey⟩).1
      have l : Le W1 H1 W1 (upd H1 q (.lst (vs ++ [x1]))) := .same fun a z => upd_ne fun z2 => nf (by rw [← z2]; exact z)
      have g2 := g1.ok.wslot (s' := .own (ds ++ [d])) (o := .lst (vs ++ [x1])) e1 ey rfl rfl ⟨q, _, rfl, upd_same, (da.append (.cons d1 .nil)).le l⟩
      exact ⟨q, vs, x1, rfl, rfl, hq1, by rw [← da.length]; exact h1.1, hn _ W1 σ _ h1.2 g2.ok (g1.stp.le.trans g2.stp.le)⟩
    · exact h1.elim
end
/-! ### x[k] = e, x a slot: an own list, a jar -/
def sIx (s : S) (k d : D) (N : S → Prop) : Prop := match s, k with
  | .own ds, .int j => ∃ n, ixN ds.length j = some n ∧ N (.own (ds.set n d))
  | .d .jar, .int j => (j = 0 ∨ j = 1 ∨ j = 2) ∧ (∃ n : Int, d = .int n ∧ (j = 1 → -(2 ^ 40) < n ∧ n < 2 ^ 40)) ∧ N (.d .jar)
  | _, _ => False
def wSetIx (i : Nat) (wk w : WE) : WS := fun E ρ => w E.ex ρ fun d ρ1 => (∃ s0, ρ1.sl[i]? = some (some s0)) ∧ wk E.ex ρ1 fun k ρ2 => match ρ2.sl[i]? with
  | some (some s) => sIx s k.frz d.frz fun s' => E.nx (if s.isOwn = true then ρ2.set i (some s') else ρ2)
  | _ => False
theorem ds_setIx (i : Nat) {x : Str} {idx : Expr} {wk : WE} {tpos : Pos} (he : DE X G T e w) (hk : DE X G T idx wk) (hN : X.N[i]? = some x := by rfl) (hv : Vis X.env.scope x := by first | exact Or.inl rfl | exact Or.inr (Or.inl rfl) | exact Or.inr (Or.inr rfl)) (hd : (x == ("__debug__" : Str)) = false := by decide) (hcd : (x == ("__classdict__" : Str)) = false := by decide)
    (ha : ∀ v, assign (.Subscript (.Name x p) idx tpos) X.env v = (do
      let ov ← holding [v] (eval (.Name x p) X.env)
      let iv ← holding [v, ov] (eval idx X.env)
      standAt tpos
      holding [v, ov, iv] (setItem ov iv v)
      release [v, ov, iv] []) := by intro _; rfl)
    (hs : swapsWithSole [.Subscript (.Name x p) idx tpos] e pos.line X.env = pure false := by rfl) (hw : swappedStores [.Subscript (.Name x p) idx tpos] e X.env = pure none := by rfl)
    (h1 : (assignEach [.Subscript (.Name x p) idx tpos] X.env).map (·.2) = [assign (.Subscript (.Name x p) idx tpos) X.env] := by rfl) :
    DS X G T (.Assign [.Subscript (.Name x p) idx tpos] e pos) (wSetIx i wk w) :=
  ps_weak (ps_asg he (pg_sub (pv i hN hv hd hcd) hk set_list ha) hs hw h1) fun D σ H ⟨W, ρ, E, ok, h, hn, hr, hb, hc, hx⟩ => by
    refine lE_then (R := fun d ρ1 => (∃ s0, ρ1.sl[i]? = some (some s0)) ∧ wk E.ex ρ1 fun k ρ2 => match ρ2.sl[i]? with
      | some (some s) => sIx s k.frz d fun s' => E.nx (if s.isOwn = true then ρ2.set i (some s') else ρ2)
      | _ => False) ok h (hx.z σ ρ) fun d ρ1 W1 x1 H1 ⟨⟨s0, e0⟩, h1⟩ g1 d1 => ?_
    obtain ⟨y, _, ey, _⟩ := g1.ok.look e0
    refine ⟨y, ey, ?_⟩
    refine lE_then (R := fun k ρ2 => match ρ2.sl[i]? with
      | some (some s) => sIx s k d fun s' => E.nx (if s.isOwn = true then ρ2.set i (some s') else ρ2)
      | _ => False) g1.ok h1 ((hx.z σ ρ).go g1) fun k ρ2 W2 x2 H2 h2 g2 d2 => ?_
    have g12 := g1.trans g2
    split at h2
    · rename_i s e2
      obtain ⟨y1, ey1, r⟩ := g2.ok.val i _ e2
      rw [ey] at ey1; cases ey1
      have d1' := d1.le g2.stp.le
      cases s with
      | own ds =>
        obtain ⟨q, vs, rfl, hq, da⟩ := r
        cases d2 <;> first | exact h2.elim | skip
        rename_i j
        obtain ⟨n, hn1, hN'⟩ := h2
        simp only [S.isOwn, if_true] at hN'
        have nf := (g2.ok.frs q ⟨i, _, e2, rfl, ey⟩).1
        have l : Le W2 H2 W2 (upd H2 q (.lst (vs.set n x1))) := .same fun a z => upd_ne fun z2 => nf (by rw [← z2]; exact z)
        have g3 := g2.ok.wslot (s' := .own (ds.set n d)) (o := .lst (vs.set n x1)) e2 ey rfl rfl ⟨q, _, rfl, upd_same, (DnA.set d1' n da).le l⟩
        exact ⟨q, vs, j, n, rfl, rfl, hq, by rw [← da.length]; exact hn1, hn _ W2 σ _ hN' g3.ok (g12.stp.le.trans g3.stp.le)⟩
      | odic es => exact (by cases d2 <;> exact h2.elim)
      | ldic es => exact (by cases d2 <;> exact h2.elim)
      | oins _ C es => exact (by cases d2 <;> exact h2.elim)
      | d z =>
        cases z <;> first | (cases d2 <;> exact False.elim h2) | skip
        cases d2 <;> first | exact False.elim h2 | skip
        rename_i j
        obtain ⟨hj, ⟨n, rfl, hb⟩, hN'⟩ := h2
        simp only [S.isOwn, Bool.false_eq_true, if_false] at hN'
        have r' : Dn X.K W2 H2 .jar y := r
        cases r' with
        | jar ja jn =>
          obtain ⟨x0, y0, z0, e3, b3⟩ := (g2.ok.al.j _ ja).jar jn
          cases d1'
          rcases hj with rfl | rfl | rfl
          · have g3 := g2.ok.wjar (x := n) (y := y0) (z := z0) ja jn b3
            exact ⟨_, _, 0, 0, rfl, rfl, e3, rfl, hn _ W2 σ _ hN' g3.ok (g12.stp.le.trans g3.stp.le)⟩
          · have g3 := g2.ok.wjar (x := x0) (y := n) (z := z0) ja jn (hb rfl)
            exact ⟨_, _, 1, 1, rfl, rfl, e3, rfl, hn _ W2 σ _ hN' g3.ok (g12.stp.le.trans g3.stp.le)⟩
          · have g3 := g2.ok.wjar (x := x0) (y := y0) (z := n) ja jn b3
            exact ⟨_, _, 2, 2, rfl, rfl, e3, rfl, hn _ W2 σ _ hN' g3.ok (g12.stp.le.trans g3.stp.le)⟩
    · exact h2.elim
/-! ### a def's answer, a list of three ints of its own, is a jar from now on -/
theorem FnG.jar {P : Program} {w : World} {K : PySem.W.Frag} {mg : Str → Option Value} {base : Heap} {k : Nat} {f : Addr} {fd : FuncData} {ps : List Str} {wf wf' : WF} (F : FnG P w K mg base k f fd ps wf)
    (h : ∀ Z ds μ R, ds.length = ps.length → wf' Z ds μ R → wf Z ds μ fun s μ => ∃ x y z : Int, s = .own [.int x, .int y, .int z] ∧ (-(2 ^ 40) < y ∧ y < 2 ^ 40) ∧ R (.d .jar) μ) : FnG P w K mg base k f fd ps wf' :=
  fun A outer s H args us vs ds W μ R Z Q E hg hr e0 hbd r hlen al mm hgm da hwf hQ hE => F A outer s H args us vs ds W μ _ Z Q E hg hr e0 hbd r hlen al mm hgm da (h Z ds μ R hlen hwf) (fun d μ' W' x H' ⟨i, j, l, e, b, hR⟩ rt => by
    subst e
    obtain ⟨q, vs', rfl, hq, dd⟩ := rt.res.rs
    obtain ⟨nf, nj, nc, h0⟩ := rt.res.fr rfl q rfl
    have ev : vs' = [.int i, .int j, .int l] := DnA.map_int (ns := [i, j, l]) dd
    subst ev
    have lj : Le W' H' (W'.addJ q) H' := ⟨fun _ z => z, fun _ z => .inl z, fun _ _ => rfl, fun _ _ z => z, rfl, rfl⟩
    refine hQ _ μ' (W'.addJ q) _ H' hR ⟨⟨rt.al.f, fun a z => z.elim (fun z => (rt.al.j a z).le lj rfl) fun e => .inr ⟨fun s z => nj (by rw [← e]; exact rt.al.t a s z), i, j, l, by rw [e]; exact hq, b⟩, fun a z => z.elim (rt.al.d a) fun e => by rw [e]; exact nf, fun a z => ⟨(rt.al.c a z).1, fun y => y.elim (rt.al.c a z).2.1 fun e => nc (by rw [← e]; exact z), (rt.al.c a z).2.2⟩, rt.al.nd, fun P s h => .inl (rt.al.t P s h)⟩, ⟨rt.stp.le.trans lj, rt.stp.nF, fun a z => z.elim (rt.stp.nJ a) fun e => .inr (by rw [e]; exact h0), rt.stp.nC, rt.stp.st, rt.stp.up⟩, .of (.jar (.inr rfl) fun s z => nj (rt.al.t q s z)), rt.mm.keep lj rfl fun _ _ => rfl⟩) hE
end
end DL


/-! DL6: defs by their names. -/
namespace DL
open PySem PySem.Spec L2
/-- the def named x at the module's top does what wf says -/
def Df (P : Program) (w : World) (K : PySem.W.Frag) (mg : Str → Option Value) (base : Heap) (k : Nat) (x : Str) (st : Stmt) (ps : List Str) (wf : WF) : Prop :=
  ∃ f fd, mg x = some (.ref f) ∧ Fun K x x st f fd ∧ Binds K fd ps [] ∧ FnG P w K mg base k f fd ps wf
def Raw (K : PySem.W.Frag) (mg : Str → Option Value) (x : Str) (st : Stmt) : Prop := ∃ f fd, mg x = some (.ref f) ∧ Fun K x x st f fd
theorem raw_mk {K : PySem.W.Frag} {h : Heap} {mg : Str → Option Value} {x : Str} {st : Stmt} (X : K.In h) (G : h.Ns mainGlobals mg) {f : Addr} {od an : Option Addr} {sl : Array (Option Value)} {oc kV dc pm cd ct : Value}
    (a : PySem.W.nsIn K mainGlobals x = some (some (.ref f))) (l : K.lookup f = some ⟨oc, od, .func (PySem.W.fnOf x x (defArgs st) (defBody st) (defScope st) .none kV dc pm an cd ct), sl⟩) (c : PySem.W.codeIn K cd x = true) (k : PySem.W.keepIn K (.ref f) = true) : Raw K mg x st :=
  ⟨f, _, PySem.W.mg_of X G a, fun_mk (st := st) l c k⟩
theorem df_of {P : Program} {w : World} {K : PySem.W.Frag} {mg : Str → Option Value} {base : Heap} {x : Str} {st : Stmt} {N ps : List Str} {k : Nat} {wf : WF} {wb : WS} (r : Raw K mg x st) (Sc : FnScope N ps (defScope st))
    (hbi : ∀ (kV doc pm : Value) (an : Option Addr) (cdv ct : Value) (us : List Value), us.length = ps.length → bindArgs (PySem.W.fnOf x x (defArgs st) (defBody st) (defScope st) .none kV doc pm an cdv ct) ⟨us, []⟩ = pure (ps.zip us))
    (hw : ∀ Z ds μ R, ds.length = ps.length → wf Z ds μ R → wb ⟨fun ρ => R (.d .non) ρ.mm, R, fun _ => False, fun _ => False, fun x ρ => Z x ρ.mm⟩ (rho0 N ds μ))
    (hb : ∀ (f : Addr) (cdv : Value) (A : Around) (outer : List PySem.Env) (s : Shared) (H : Hp) (E : XK) (W : Wd), W.g = mg → CxG (cxOf (L2.CX P w) P w K mg base N x (defScope st) f cdv A outer s H E) (fun cls d _ H => E cls d H) k →
      DSs (cxOf (L2.CX P w) P w K mg base N x (defScope st) f cdv A outer s H E) ⟨W, H⟩ (fun cls d _ H => E cls d H) (defBody st) wb) : Df P w K mg base (k + 1) x st ps wf := by
  obtain ⟨f, fd, h1, F⟩ := r
  exact ⟨f, fd, h1, F, F.binds hbi, ok_def F Sc hw (hb f)⟩
theorem Df.imp {P : Program} {w : World} {K : PySem.W.Frag} {mg : Str → Option Value} {base : Heap} {k : Nat} {x : Str} {st : Stmt} {ps : List Str} {wf wf' : WF} (F : Df P w K mg base k x st ps wf) (h : ∀ Z ds μ R, ds.length = ps.length → wf' Z ds μ R → wf Z ds μ R) : Df P w K mg base k x st ps wf' := by
  obtain ⟨f, fd, h1, h2, h3, h4⟩ := F
  exact ⟨f, fd, h1, h2, h3, h4.imp h⟩
theorem Df.jar {P : Program} {w : World} {K : PySem.W.Frag} {mg : Str → Option Value} {base : Heap} {k : Nat} {x : Str} {st : Stmt} {ps : List Str} {wf wf' : WF} (F : Df P w K mg base k x st ps wf)
    (h : ∀ Z ds μ R, ds.length = ps.length → wf' Z ds μ R → wf Z ds μ fun s μ => ∃ x y z : Int, s = .own [.int x, .int y, .int z] ∧ (-(2 ^ 40) < y ∧ y < 2 ^ 40) ∧ R (.d .jar) μ) : Df P w K mg base k x st ps wf' := by
  obtain ⟨f, fd, h1, h2, h3, h4⟩ := F
  exact ⟨f, fd, h1, h2, h3, h4.jar h⟩
section
variable {X : Cx} {G : Gx} {T : WX} {k j : Nat} {ps : List Str} {wf : WF}
theorem de_callD {x : Str} {st : Stmt} {p pos : Pos} {e : Expr} {es : List Expr} {u : WA} (C : CxG X T k) (hG : G.W.g = X.mg) (F : Df X.prog X.w X.K X.mg X.base j x st ps wf) (hj : j ≤ k) (ha : DA X G T (e :: es) u)
    (hg : Gl X x := by rfl) (hdb : (x == ("__debug__" : Str)) = false := by decide) (he : starEach (e :: es) X.env = (false, eval e X.env) :: starEach es X.env := by rfl) (hpl : (backTo pos (starEach es X.env)).any (·.1) = false := by rfl) :
    DE X G T (.Call (.Name x p) (e :: es) [] pos) (wCall ps.length wf u) := by
  obtain ⟨f, fd, h1, h2, h3, h4⟩ := F
  exact de_call C hG h4 hj h1 h2.kp h3 ha hg hdb he hpl
/-! ### keywords -/
def DK (X : Cx) (G : Gx) (T : WX) (kws : List Keyword) (w : WA) : Prop := PK X kws (lA X.K G T w)
theorem dk_nil : DK X G T [] wNil := ⟨fun po p s σ H Q I ⟨W, ρ, R, Z, ok, h, hR, hZ⟩ => pk_nil.run po p s σ H Q I (hR _ _ _ _ _ h (.refl ok) .nil)⟩
theorem dk_cons {nm : Option Str} {e : Expr} {kpos : Pos} {kws : List Keyword} {wa : WE} {u : WA} (ha : DE X G T e wa) (hr : DK X G T kws u) : DK X G T (⟨nm, e, kpos⟩ :: kws) (wCons wa u) :=
  ⟨fun po p s σ H Q I ⟨W, ρ, R, Z, ok, h, hR, hZ⟩ => (pk_cons (te := lE X.K G T wa) (t := lA X.K G T u) ha hr).run po p s σ H Q I (by
    refine lE_then (R := fun x ρ1 => u Z ρ1 fun xs ρ2 => R (x :: xs) ρ2) ok h hZ fun d ρ1 W1 x H1 h1 g1 d1 => ?_
    exact ⟨W1, ρ1, _, Z, g1.ok, h1, fun ds ρ2 W2 xs H2 h2 g2 d2 => hR _ _ _ _ _ h2 (g1.trans g2) (.cons (d1.le g2.stp.le) d2), hZ.go g1⟩)⟩
/-- the values in the parameters' order -/
def permL {α : Type} (x0 : α) (is : List Nat) (l : List α) : List α := is.map fun i => l.getD i x0
def wCallK (n n1 n2 : Nat) (is : List Nat) (wf : WF) (u uk : WA) : WE := fun Z ρ R => u Z ρ fun ds ρ1 => ds.length = n1 ∧ uk Z ρ1 fun es ρ2 => es.length = n2 ∧ (permL .non is (ds ++ es)).length = n ∧ (∀ i ∈ is, i < (ds ++ es).length) ∧ wf (fun x μ => Z x ⟨ρ2.sl, μ⟩) (permL .non is (ds ++ es)) ρ2.mm fun s μ => R s ⟨ρ2.sl, μ⟩
theorem vals_perm {vs : List V} {us : List Value} (r : Vals vs us) : ∀ {is : List Nat}, (∀ i ∈ is, i < vs.length) → Vals (permL .non is vs) (permL .none is us)
  | [], _ => .nil
  | i :: is, h => by
    have hi := h i (List.mem_cons_self ..)
    obtain ⟨u, e, ru⟩ := r.get (List.getElem?_eq_getElem hi)
    refine .cons ?_ (vals_perm r fun j hj => h j (List.mem_cons_of_mem _ hj))
    show RelV (vs.getD i .non) (us.getD i .none)
    rw [List.getD_eq_getElem?_getD, List.getD_eq_getElem?_getD, e, List.getElem?_eq_getElem hi]
    exact ru
theorem dna_perm {K : PySem.W.Frag} {W : Wd} {H : Hp} {ds : List D} {vs : List V} (r : DnA K W H ds vs) : ∀ {is : List Nat}, (∀ i ∈ is, i < ds.length) → DnA K W H (permL .non is ds) (permL .non is vs)
  | [], _ => .nil
  | i :: is, h => by
    have hi := h i (List.mem_cons_self ..)
    obtain ⟨u, e, ru⟩ := r.get (List.getElem?_eq_getElem hi)
    refine .cons ?_ (dna_perm r fun j hj => h j (List.mem_cons_of_mem _ hj))
    show Dn K W H (ds.getD i .non) (vs.getD i .non)
    rw [List.getD_eq_getElem?_getD, List.getD_eq_getElem?_getD, e, List.getElem?_eq_getElem hi]
    exact ru
theorem de_callK {x : Str} {st : Stmt} {p pos : Pos} {e : Expr} {es : List Expr} {kws : List Keyword} {u uk : WA} (is : List Nat) (ks : List Str) (C : CxG X T k) (hG : G.W.g = X.mg) (F : Df X.prog X.w X.K X.mg X.base j x st ps wf) (hj : j ≤ k) (ha : DA X G T (e :: es) u) (hkw : DK X G T kws uk)
    (hbi : ∀ (kV doc pm : Value) (an : Option Addr) (cdv ct : Value) (us ws : List Value), us.length = (e :: es).length → ws.length = ks.length → bindArgs (PySem.W.fnOf x x (defArgs st) (defBody st) (defScope st) .none kV doc pm an cdv ct) ⟨us, ks.zip ws⟩ = pure (ps.zip (permL .none is (us ++ ws))))
    (hall : (backToKw pos (keywordEach kws X.env)).all (·.1.isSome) = true := by rfl) (hks : (backToKw pos (keywordEach kws X.env)).filterMap (·.1) = ks := by rfl)
    (hg : Gl X x := by rfl) (hdb : (x == ("__debug__" : Str)) = false := by decide) (he : starEach (e :: es) X.env = (false, eval e X.env) :: starEach es X.env := by rfl)
    (hpl : ((backTo pos (starEach (e :: es) X.env)).any (·.1) || (backToKw pos (keywordEach kws X.env)).any (·.1.isNone)) = false := by rfl) :
    DE X G T (.Call (.Name x p) (e :: es) kws pos) (wCallK ps.length (e :: es).length ks.length is wf u uk) := by
  obtain ⟨f, fd, h1, Fu, h3, h4⟩ := F
  refine ⟨fun pins s σ H Q I ⟨W, ρ, R, Z, ok, h, hR, hZ⟩ => ?_⟩
  refine wpAny_Call_Name_kw (ld_glob I hg h1 ?_ hdb)
  have args : lA X.K G T u σ H fun vs H1 => ∃ ds W1 ρ1, Go X.K G σ ρ W H ρ1 W1 H1 ∧ DnA X.K W1 H1 ds vs ∧ ds.length = (e :: es).length ∧ uk Z ρ1 fun es2 ρ2 => es2.length = ks.length ∧ (permL .non is (ds ++ es2)).length = ps.length ∧ (∀ i ∈ is, i < (ds ++ es2).length) ∧ wf (fun x μ => Z x ⟨ρ2.sl, μ⟩) (permL .non is (ds ++ es2)) ρ2.mm fun s μ => R s ⟨ρ2.sl, μ⟩ :=
    ⟨W, ρ, _, Z, ok, h, fun ds ρ1 W1 xs H1 ⟨h1, h2⟩ g d => ⟨ds, W1, ρ1, g, d, h1, h2⟩, hZ⟩
  refine PySem.W.callWith_KW (h₀ := X.base) I.ok.mod.kin Fu.kp hall (thn (ha.run pos pins s σ H _ I args) fun us s1 ⟨vs, H1, I1, r, ds, W1, ρ1, g, d, l1, hh⟩ => ?_) hpl he
  have kargs : lA X.K G T uk σ H1 fun zs H2 => ∃ es2 W2 ρ2, Go X.K G σ ρ1 W1 H1 ρ2 W2 H2 ∧ DnA X.K W2 H2 es2 zs ∧ es2.length = ks.length ∧ (permL .non is (ds ++ es2)).length = ps.length ∧ (∀ i ∈ is, i < (ds ++ es2).length) ∧ wf (fun x μ => Z x ⟨ρ2.sl, μ⟩) (permL .non is (ds ++ es2)) ρ2.mm fun s μ => R s ⟨ρ2.sl, μ⟩ :=
    ⟨W1, ρ1, _, Z, g.ok, hh, fun ds ρ1 W1 xs H1 ⟨h1, h2⟩ g d => ⟨ds, W1, ρ1, g, d, h1, h2⟩, hZ.go g⟩
  refine thn (hkw.run pos pins s1 σ H1 _ I1 kargs) fun ws s2 ⟨zs, H2, I2, rz, es2, W2, ρ2, g2, d2, l2, l3, l4, hw⟩ => ⟨I2.kIn, ?_⟩
  rw [hks]
  have da := (d.le g2.stp.le).append d2
  have dp := dna_perm da l4
  have rp := vals_perm (r.append rz) (is := is) (by rw [← da.length]; exact l4)
  obtain ⟨oc, od, kV, doc, pm, an, cdv, ct, osl, rfl, lk, hcd⟩ := Fu.ex
  have bt : BindsTo s2 (PySem.W.fnOf x x (defArgs st) (defBody st) (defScope st) .none kV doc pm an cdv ct) ⟨us, ks.zip ws⟩ (ps.zip (permL .none is (us ++ ws))) :=
    .of_eq (hbi kV doc pm an cdv ct us ws (by rw [← r.length, ← d.length]; exact l1) (by rw [← rz.length, ← d2.length]; exact l2))
  refine wpAny_call (codeAny_mono (run_g C hG h4 hj bt I2 rp l3 g2.ok dp hw (fun d μ W' x H' hr g' rs => hR d _ W' x H' hr ((g.trans g2).trans g') (rs.up (g.trans g2).stp.up)) fun x μ W' H' c dx hz g' ex => hZ x _ W' H' c dx hz ((g.trans g2).trans g') ex) fun r s' hq => ?_)
  match r, hq with
  | .error e, hq => exact hq
  | .ok (.ret u), hq => exact hq
/-- keywords alone -/
theorem de_callK0 {x : Str} {st : Stmt} {p pos : Pos} {kws : List Keyword} {uk : WA} (is : List Nat) (ks : List Str) (C : CxG X T k) (hG : G.W.g = X.mg) (F : Df X.prog X.w X.K X.mg X.base j x st ps wf) (hj : j ≤ k) (hkw : DK X G T kws uk)
    (hbi : ∀ (kV doc pm : Value) (an : Option Addr) (cdv ct : Value) (ws : List Value), ws.length = ks.length → bindArgs (PySem.W.fnOf x x (defArgs st) (defBody st) (defScope st) .none kV doc pm an cdv ct) ⟨[], ks.zip ws⟩ = pure (ps.zip (permL .none is ws)))
    (hall : (backToKw pos (keywordEach kws X.env)).all (·.1.isSome) = true := by rfl) (hks : (backToKw pos (keywordEach kws X.env)).filterMap (·.1) = ks := by rfl)
    (hg : Gl X x := by rfl) (hdb : (x == ("__debug__" : Str)) = false := by decide)
    (hpl : ((backTo pos (starEach [] X.env)).any (·.1) || (backToKw pos (keywordEach kws X.env)).any (·.1.isNone)) = false := by rfl) :
    DE X G T (.Call (.Name x p) [] kws pos) (wCallK ps.length 0 ks.length is wf wNil uk) := by
  obtain ⟨f, fd, h1, Fu, h3, h4⟩ := F
  refine ⟨fun pins s σ H Q I ⟨W, ρ, R, Z, ok, h, hR, hZ⟩ => ?_⟩
  refine wpAny_Call_Name_kw (ld_glob I hg h1 ?_ hdb)
  refine PySem.W.callWith_KW0 (h₀ := X.base) I.ok.mod.kin Fu.kp hall ?_ hpl
  have kargs : lA X.K G T uk σ H fun zs H2 => ∃ es2 W2 ρ2, Go X.K G σ ρ W H ρ2 W2 H2 ∧ DnA X.K W2 H2 es2 zs ∧ es2.length = ks.length ∧ (permL .non is es2).length = ps.length ∧ (∀ i ∈ is, i < es2.length) ∧ wf (fun x μ => Z x ⟨ρ2.sl, μ⟩) (permL .non is es2) ρ2.mm fun s μ => R s ⟨ρ2.sl, μ⟩ :=
    ⟨W, ρ, _, Z, ok, h.2, fun ds ρ1 W1 xs H1 ⟨h1, h2⟩ g d => ⟨ds, W1, ρ1, g, d, h1, h2⟩, hZ⟩
  refine thn (hkw.run pos pins s σ H _ I kargs) fun ws s2 ⟨zs, H2, I2, rz, es2, W2, ρ2, g2, d2, l2, l3, l4, hw⟩ => ⟨I2.kIn, ?_⟩
  rw [hks]
  have dp := dna_perm d2 l4
  have rp := vals_perm rz (is := is) (by rw [← d2.length]; exact l4)
  obtain ⟨oc, od, kV, doc, pm, an, cdv, ct, osl, rfl, lk, hcd⟩ := Fu.ex
  have bt : BindsTo s2 (PySem.W.fnOf x x (defArgs st) (defBody st) (defScope st) .none kV doc pm an cdv ct) ⟨[], ks.zip ws⟩ (ps.zip (permL .none is ws)) :=
    .of_eq (hbi kV doc pm an cdv ct ws (by rw [← rz.length, ← d2.length]; exact l2))
  refine wpAny_call (codeAny_mono (run_g C hG h4 hj bt I2 rp l3 g2.ok dp hw (fun d μ W' x H' hr g' rs => hR d _ W' x H' hr (g2.trans g') (rs.up g2.stp.up)) fun x μ W' H' c dx hz g' ex => hZ x _ W' H' c dx hz (g2.trans g') ex) fun r s' hq => ?_)
  match r, hq with
  | .error e, hq => exact hq
  | .ok (.ret u), hq => exact hq
theorem de_gintE {x : Str} {i : Int} {pos : Pos} (hm : ∃ t, X.mg x = some (.int i t)) (hg : Gl X x := by rfl) (hd : (x == ("__debug__" : Str)) = false := by decide) : DE X G T (.Name x pos) (wC (.int i)) := by
  obtain ⟨t, h⟩ := hm
  exact de_gint hg h hd
end
theorem gint_mk {K : PySem.W.Frag} {h : Heap} {mg : Str → Option Value} {x : Str} {i : Int} {t : Tok} (X : K.In h) (G : h.Ns mainGlobals mg) (a : PySem.W.nsIn K mainGlobals x = some (some (.int i t))) : ∃ t, mg x = some (.int i t) := ⟨t, PySem.W.mg_of X G a⟩
theorem gstr_mk {K : PySem.W.Frag} {h : Heap} {mg : Str → Option Value} {x : Str} {i : Str} {t : Tok} (X : K.In h) (G : h.Ns mainGlobals mg) (a : PySem.W.nsIn K mainGlobals x = some (some (.str i t))) : ∃ t, mg x = some (.str i t) := ⟨t, PySem.W.mg_of X G a⟩
/-- the law's def is run -/
theorem end_of {P : Program} {w : World} {K : PySem.W.Frag} {mg : Str → Option Value} {k : Nat} {x : Str} {p : Str} {wf : WF} {fa : Addr} {h : Heap} (KX : K.In h) (Gn : h.Ns mainGlobals mg) (hfa : mg x = some (.ref fa)) {st : Stmt} (r : Raw K mg x st)
    (hbi : ∀ (kV doc pm : Value) (an : Option Addr) (cdv ct : Value) (s : Shared) (v : Value), BindsTo s (PySem.W.fnOf x x (defArgs st) (defBody st) (defScope st) .none kV doc pm an cdv ct) ⟨[v], []⟩ [(p, v)])
    (F : ∀ base : Heap, K.In base → TabsB K mg base → Df P w K mg base k x st [p] wf) :
    ∃ fd : FuncData, (∀ (s : Shared) (u : Value), BindsTo s fd ⟨[u], []⟩ [(p, u)]) ∧ ∀ base : Heap, K.In base → base.Ns mainGlobals mg → TabsB K mg base → FnG P w K mg base k fa fd [p] wf := by
  obtain ⟨f, fd, h1, Fu⟩ := r
  rw [hfa] at h1
  cases h1
  obtain ⟨oc, od, kV, doc, pm, an, cdv, ct, osl, rfl, lk, hcd⟩ := Fu.ex
  refine ⟨_, hbi kV doc pm an cdv ct, fun base kb _ TB => ?_⟩
  obtain ⟨f', fd', g1, g2, g3, g4⟩ := F base kb TB
  rw [hfa] at g1
  cases g1
  obtain ⟨oc2, od2, _, _, _, _, _, _, sl2, _, l2, _⟩ := g2.ex
  rw [lk] at l2
  cases l2
  exact g4
end DL


/-! DL5b: slices, range with a step, three names at once. -/
namespace DL
open PySem PySem.Spec L2
section
variable {X : Cx} {G : Gx} {T : WX} {a b c e : Expr} {w wa wb wc : WE} {pos p p2 : Pos} {i : Nat}
abbrev WO := ZK → Rho → (Option Int → Rho → Prop) → Prop
def lO (K : PySem.W.Frag) (G : Gx) (T : WX) (w : WO) : TO := fun σ H Q => ∃ (W : Wd) (ρ : Rho) (R : Option Int → Rho → Prop) (Z : ZK), Ok K G W ρ σ H ∧ w Z ρ R ∧ (∀ o ρ' W' H', R o ρ' → Go K G σ ρ W H ρ' W' H' → Q o H') ∧ lZ K G T Z σ ρ W H
def DO (X : Cx) (G : Gx) (T : WX) (e : Option Expr) (w : WO) : Prop := PO X e (lO X.K G T w)
theorem po_weak {e : Option Expr} {t t' : TO} (h : PO X e t) (i : ∀ σ H Q, t' σ H Q → t σ H Q) : PO X e t' := ⟨fun p s σ H Q I q => h.run p s σ H Q I (i σ H Q q)⟩
def wNoP : WO := fun _ ρ R => R none ρ
def wPart (w : WE) : WO := fun Z ρ R => w Z ρ fun d ρ' => match d.frz with
  | .int i => R (some i) ρ'
  | _ => False
theorem do_none : DO X G T none wNoP := po_weak po_none fun σ H Q ⟨W, ρ, R, Z, ok, h, hR, _⟩ => hR _ _ _ _ h (.refl ok)
theorem do_some (h : DE X G T e w) : DO X G T (some e) (wPart w) := po_weak (po_some h) fun σ H Q ⟨W, ρ, R, Z, ok, h, hR, hZ⟩ => by
  refine lE_then (R := fun d ρ' => match d with | .int i => R (some i) ρ' | _ => False) ok h hZ fun d ρ1 W1 x H1 h1 g1 d1 => ?_
  cases d1 <;> first | exact False.elim h1 | skip
  exact ⟨_, rfl, hR _ _ _ _ h1 g1⟩
def cutD {α : Type} (xs : List α) (lo hi : Option Int) : List α := (xs.drop (HT.sIx xs.length 0 lo)).take (HT.sIx xs.length xs.length hi - HT.sIx xs.length 0 lo)
theorem DnA.cut {K : PySem.W.Frag} {W : Wd} {H : Hp} {ds : List D} {xs : List V} (h : DnA K W H ds xs) (lo hi : Option Int) : DnA K W H (cutD ds lo hi) (cutV xs lo hi) := by
  unfold cutD cutV
  rw [← h.length]
  exact (h.drop _).take _
def fSl (d : D) (lo hi : Option Int) (R : S → Prop) : Prop := match d with
  | .tup ds => R (.d (.tup (cutD ds lo hi)))
  | .lst ds => R (.own (cutD ds lo hi))
  | .rls ds => R (.own (cutD ds lo hi))
  | .str s => s.length ≤ sizeLine ∧ R (.d (.str (cutS s lo hi)))
  | _ => False
def wSl (w : WE) (wl wh : WO) : WE := fun Z ρ R => w Z ρ fun d ρ1 => wl Z ρ1 fun lo ρ2 => wh Z ρ2 fun hi ρ3 => fSl d.frz lo hi fun z => R z ρ3
theorem cut_whole {α : Type} {xs : List α} {lo hi : Option Int} (h : HT.sIx xs.length 0 lo = 0 ∧ HT.sIx xs.length xs.length hi = xs.length) : cutD xs lo hi = xs := by
  unfold cutD
  rw [h.1, h.2]
  simp
theorem lE_sl {K : PySem.W.Frag} {wl wh : WO} {σ : L2.St} {H : Hp} {Q : VK} (h : lE K G T (wSl w wl wh) σ H Q) : tSl (fun x lo hi H Q => (rSlL K x lo hi H Q ∨ rSlA K x lo hi H Q) ∨ rSlS x lo hi H Q) (lE K G T w) (lO K G T wl) (lO K G T wh) σ H Q := by
  obtain ⟨W, ρ, R, Z, ok, h, hR, hZ⟩ := h
  refine lE_then (R := fun d ρ1 => wl Z ρ1 fun lo ρ2 => wh Z ρ2 fun hi ρ3 => fSl d lo hi fun z => R z ρ3) ok h hZ fun d ρ1 W1 x H1 h1 g1 d1 => ?_
  refine ⟨W1, ρ1, _, Z, g1.ok, h1, fun lo ρ2 W2 H2 h2 g2 => ?_, hZ.go g1⟩
  refine ⟨W2, ρ2, _, Z, g2.ok, h2, fun hi ρ3 W3 H3 h3 g3 => ?_, (hZ.go g1).go g2⟩
  have g := (g1.trans g2).trans g3
  have d3 := (d1.le g2.stp.le).le g3.stp.le
  match d, x, d3, h3 with
  | .tup ds, _, .tup e da, h3 =>
    have lq := da.length
    refine .inl (.inr ⟨_, _, rfl, e.sq, fun hw => ?_, fun _ q hq => ?_⟩)
    · rw [← lq] at hw
      refine hR _ ρ3 W3 _ H3 h3 g (.of ?_)
      rw [cut_whole hw]
      exact .tup e da
    · exact hR _ ρ3 _ _ _ h3 (g.trans (.newF g.ok hq)) (.of (res_tup g.ok hq (da.cut lo hi)))
  | .lst ds, _, .lst f e da, h3 => exact .inl (.inl ⟨_, _, rfl, SqL.of e, fun q hq => hR _ ρ3 _ _ _ h3 (g.trans (.new g.ok hq)) (res_own g.ok hq (g.stp.up q hq) (da.cut lo hi))⟩)
  | .rls ds, _, .rls e da, h3 => exact .inl (.inl ⟨_, _, rfl, e.sq, fun q hq => hR _ ρ3 _ _ _ h3 (g.trans (.new g.ok hq)) (res_own g.ok hq (g.stp.up q hq) (da.cut lo hi))⟩)
  | .str z, _, .str _, h3 => exact .inr ⟨z, rfl, h3.1, hR _ ρ3 W3 _ H3 h3.2 g (.of (.str _))⟩
theorem de_sl {lo hi : Option Expr} {wl wh : WO} (he : DE X G T e w) (hl : DO X G T lo wl) (hu : DO X G T hi wh) : DE X G T (.Subscript e (.Slice lo hi none p2) pos) (wSl w wl wh) :=
  pe_weak (pe_slice ((sl_list.or sl_tupA).or sl_str) he hl hu) fun _ _ _ h => lE_sl h
/-- xs[::-1] of a list -/
def fRev (d : D) (R : S → Prop) : Prop := match d with
  | .lst ds => R (.own ds.reverse)
  | .rls ds => R (.own ds.reverse)
  | _ => False
theorem de_rev {k : Nat} {p1 p3 : Pos} (he : DE X G T e w) : DE X G T (.Subscript e (.Slice none none (some (.UnaryOp .USub (.Constant (.int 1) k p1) p2)) p3) pos) (wUn fRev w) :=
  pe_weak (pe_revL he) fun σ H Q h => lE_un (K := X.K) (r := fun x H1 Q => ∃ a xs, x = .ref a ∧ SqL X.K H1 a xs ∧ ∀ p, H1 p = none → Q (.ref p) (upd H1 p (.lst xs.reverse))) (fun G W ρ σ H d x R Q ok hd f k => by
    match d, x, hd, f with
    | .lst ds, _, .lst _ e da, f => exact ⟨_, _, rfl, SqL.of e, fun q hq => k _ _ _ _ f (.new ok hq) (res_own ok hq hq da.reverse)⟩
    | .rls ds, _, .rls e da, f => exact ⟨_, _, rfl, e.sq, fun q hq => k _ _ _ _ f (.new ok hq) (res_own ok hq hq da.reverse)⟩) h
/-! ### range(a, b, c) -/
def rangeDC (lo c : Int) (n : Nat) : List D := (List.range n).map fun i => .int (lo + (i : Nat) * c)
def rg3 (ds : List D) (N : List D → Prop) : Prop := match ds with
  | [.int i, .int j, .int c] => ∃ n, RgC i j c n ∧ N (rangeDC i c n)
  | _ => False
/-! ### a, b, c = x, y, z -/
/-! ### a, b = x, y by a tuple that is taken apart at once -/
end
end DL


/-! DL7: how readings over data are shown. -/
namespace DL
open PySem PySem.Spec L2
variable {E : DEnds} {ρ : Rho} {Z : ZK} {R : S → Rho → Prop} {u v : WS} {w wa wb wc : WE} {t t' : WT} {i j : Nat}
section
@[simp] theorem s_frz_d {d : D} : (S.d d).frz = d := rfl
@[simp] theorem s_frz_own {ds : List D} : (S.own ds).frz = .lst ds := rfl
@[simp] theorem s_own_d {d : D} : (S.d d).isOwn = false := rfl
@[simp] theorem s_eqI {a b : Int} {R : S → Prop} : fEq (.int a) (.int b) R = R (.d (.bl (a == b))) := by
  unfold fEq; simp [D.cmpOk, D.okSc, D.scl, D.eqb, D.py, PyData.eqv]
@[simp] theorem s_neI {a b : Int} {R : S → Prop} : fNe (.int a) (.int b) R = R (.d (.bl (!(a == b)))) := by
  unfold fNe; simp [D.cmpOk, D.okSc, D.scl, D.eqb, D.py, PyData.eqv]
@[simp] theorem s_lenT {ds : List D} {R : S → Prop} : fLen [.tup ds] R = R (.d (.int ds.length)) := by simp [fLen, D.items]
@[simp] theorem s_lenL {ds : List D} {R : S → Prop} : fLen [.lst ds] R = R (.d (.int ds.length)) := by simp [fLen, D.items]
@[simp] theorem s_lenR {ds : List D} {R : S → Prop} : fLen [.rls ds] R = R (.d (.int ds.length)) := by simp [fLen, D.items]
@[simp] theorem s_tupL {ds : List D} {R : S → Prop} : fTuple [.lst ds] R = R (.d (.tup ds)) := by simp [fTuple, D.items]
@[simp] theorem s_lstT {ds : List D} {R : S → Prop} : fList [.tup ds] R = R (.own ds) := by simp [fList, D.items]
end
/-- x is None, x is not None -/
def fIs (d : D) (R : S → Prop) : Prop := d.isNon fun b => R (.d (.bl b))
def fIsn (d : D) (R : S → Prop) : Prop := d.isNon fun b => R (.d (.bl (!b)))
/-! ### loops -/
end DL


/-! DL8: isinstance by constructors, small facts. -/
namespace DL
open PySem PySem.Spec L2
theorem kb_1 : kitB "NoneType" "int" = some false := by decide +kernel
theorem kb_2 : kitB "bool" "int" = some true := by decide +kernel
theorem kb_3 : kitB "int" "int" = some true := by decide +kernel
theorem kb_4 : kitB "str" "int" = some false := by decide +kernel
theorem kb_5 : kitB "tuple" "int" = some false := by decide +kernel
theorem kb_6 : kitB "list" "int" = some false := by decide +kernel
theorem kb_7 : kitB "dict" "int" = some false := by decide +kernel
theorem kb_8 : kitB "NoneType" "bool" = some false := by decide +kernel
theorem kb_9 : kitB "bool" "bool" = some true := by decide +kernel
theorem kb_10 : kitB "int" "bool" = some false := by decide +kernel
theorem kb_11 : kitB "str" "bool" = some false := by decide +kernel
theorem kb_12 : kitB "tuple" "bool" = some false := by decide +kernel
theorem kb_13 : kitB "list" "bool" = some false := by decide +kernel
theorem kb_14 : kitB "dict" "bool" = some false := by decide +kernel
theorem kb_15 : kitB "NoneType" "tuple" = some false := by decide +kernel
theorem kb_16 : kitB "bool" "tuple" = some false := by decide +kernel
theorem kb_17 : kitB "int" "tuple" = some false := by decide +kernel
theorem kb_18 : kitB "str" "tuple" = some false := by decide +kernel
theorem kb_19 : kitB "tuple" "tuple" = some true := by decide +kernel
theorem kb_20 : kitB "list" "tuple" = some false := by decide +kernel
theorem kb_21 : kitB "dict" "tuple" = some false := by decide +kernel
theorem kb_22 : kitB "NoneType" "str" = some false := by decide +kernel
theorem kb_23 : kitB "bool" "str" = some false := by decide +kernel
theorem kb_24 : kitB "int" "str" = some false := by decide +kernel
theorem kb_25 : kitB "str" "str" = some true := by decide +kernel
theorem kb_26 : kitB "tuple" "str" = some false := by decide +kernel
theorem kb_27 : kitB "list" "str" = some false := by decide +kernel
theorem kb_28 : kitB "dict" "str" = some false := by decide +kernel
def D.known (d : D) : Bool := d.tyName.isSome
def D.isI : D → Bool
  | .int _ => true
  | _ => false
def D.isT : D → Bool
  | .tup _ => true
  | _ => false
def D.isS : D → Bool
  | .str _ => true
  | _ => false
def D.isBl : D → Bool
  | .bl _ => true
  | _ => false
theorem isi_int {d : D} {R : S → Prop} (h : d.known = true) : fIsi [d, .v (.ty "int")] R = R (.d (.bl (d.isI || d.isBl))) := by
  cases d <;> first | (cases h; done) | simp [fIsi, D.tyName, D.isI, D.isBl, kb_1, kb_2, kb_3, kb_4, kb_5, kb_6, kb_7]
theorem isi_bool {d : D} {R : S → Prop} (h : d.known = true) : fIsi [d, .v (.ty "bool")] R = R (.d (.bl d.isBl)) := by
  cases d <;> first | (cases h; done) | simp [fIsi, D.tyName, D.isBl, kb_8, kb_9, kb_10, kb_11, kb_12, kb_13, kb_14]
theorem isi_tuple {d : D} {R : S → Prop} (h : d.known = true) : fIsi [d, .v (.ty "tuple")] R = R (.d (.bl d.isT)) := by
  cases d <;> first | (cases h; done) | simp [fIsi, D.tyName, D.isT, kb_15, kb_16, kb_17, kb_18, kb_19, kb_20, kb_21]
theorem isi_str {d : D} {R : S → Prop} (h : d.known = true) : fIsi [d, .v (.ty "str")] R = R (.d (.bl d.isS)) := by
  cases d <;> first | (cases h; done) | simp [fIsi, D.tyName, D.isS, kb_22, kb_23, kb_24, kb_25, kb_26, kb_27, kb_28]
@[simp] theorem known_int {i : Int} : (D.int i).known = true := by unfold D.known D.tyName; rfl
@[simp] theorem known_tup {ds : List D} : (D.tup ds).known = true := by unfold D.known D.tyName; rfl
@[simp] theorem known_str {s : Str} : (D.str s).known = true := by unfold D.known D.tyName; rfl
theorem mapInj {α β : Type} {f : α → β} (hf : ∀ a b, f a = f b → a = b) : ∀ {a b : List α}, a.map f = b.map f → a = b
  | [], [], _ => rfl
  | [], _ :: _, h => by cases h
  | _ :: _, [], h => by cases h
  | x :: xs, y :: ys, h => by
    rw [List.map_cons, List.map_cons] at h
    injection h with h1 h2
    rw [hf _ _ h1, mapInj hf h2]
/-! ### all and any of tests -/
@[simp] theorem s_allB {bs : List Bool} {R : S → Prop} : fAll [.lst (bs.map .bl)] R = R (.d (.bl (bs.all id))) := by
  unfold fAll
  refine propext ⟨fun ⟨cs, e, h⟩ => ?_, fun h => ⟨bs, rfl, h⟩⟩
  have e' : bs.map D.bl = cs.map D.bl := by injection e with e _; injection e
  have : bs = cs := mapInj (fun a b h => by injection h) e'
  rwa [this]
@[simp] theorem s_anyB {bs : List Bool} {R : S → Prop} : fAny [.lst (bs.map .bl)] R = R (.d (.bl (bs.any id))) := by
  unfold fAny
  refine propext ⟨fun ⟨cs, e, h⟩ => ?_, fun h => ⟨bs, rfl, h⟩⟩
  have e' : bs.map D.bl = cs.map D.bl := by injection e with e _; injection e
  have : bs = cs := mapInj (fun a b h => by injection h) e'
  rwa [this]
theorem all_map {α : Type} {ds : List α} {p : α → Bool} {R : S → Prop} : fAll [.lst (ds.map fun d => .bl (p d))] R = R (.d (.bl (ds.all p))) := by
  have : (ds.map fun d => D.bl (p d)) = (ds.map p).map .bl := by simp
  rw [this, s_allB]
  simp [List.all_map]
theorem any_map {α : Type} {ds : List α} {p : α → Bool} {R : S → Prop} : fAny [.lst (ds.map fun d => .bl (p d))] R = R (.d (.bl (ds.any p))) := by
  have : (ds.map fun d => D.bl (p d)) = (ds.map p).map .bl := by simp
  rw [this, s_anyB]
  simp [List.any_map]
theorem int_inj {a b : List Int} (h : a.map D.int = b.map D.int) : a = b := mapInj (fun a b h => by injection h) h
/-- the ints as data -/
abbrev tI (ns : List Int) : D := .tup (ns.map .int)
abbrev gI (ns : List Int) : D := .lst (ns.map .int)
theorem atI_pos {α : Type} {xs : List α} {i : Int} {x : α} (h0 : 0 ≤ i) (h : xs[i.toNat]? = some x) : L2.atI xs i = some x := by
  obtain ⟨n, rfl⟩ := Int.eq_ofNat_of_zero_le h0
  exact L2.atI_nat (by simpa using h)
end DL


/-! DL9: data that may be compared and shown. -/
namespace DL
open PySem PySem.Spec L2
mutual
/-- at most n deep, ints of at most 200 bits, good texts -/
def D.nice : Nat → D → Bool
  | _, .non => true
  | _, .bl _ => true
  | _, .int i => decide (i.natAbs < 2 ^ 200)
  | _, .str s => PyData.strOk s
  | n + 1, .tup ds => D.niceA n ds
  | n + 1, .lst ds => D.niceA n ds
  | n + 1, .rls ds => D.niceA n ds
  | _, _ => false
def D.niceA : Nat → List D → Bool
  | _, [] => true
  | n, d :: ds => D.nice n d && D.niceA n ds
end
mutual
def D.wt : D → Nat
  | .int _ => 200
  | .str s => s.cps.size
  | .tup ds => D.wtA ds
  | .lst ds => D.wtA ds
  | .rls ds => D.wtA ds
  | _ => 0
def D.wtA : List D → Nat
  | [] => 0
  | d :: ds => D.wt d + 1 + D.wtA ds
end
theorem showLen (i : Int) (h : (Nat.toDigits 10 i.natAbs).length ≤ 61) : (Str.ofString (toString i)).length ≤ 64 := by
  have nat : ∀ m : Nat, (Nat.toDigits 10 m).length ≤ 61 → (Str.ofString (toString (Int.ofNat m))).length ≤ 61 := fun m hm => by
    rw [PyProof.Rows.ofString_len]
    show (Nat.repr m).length ≤ 61
    simpa [Nat.repr] using hm
  by_cases z : i < 0
  · rw [PyProof.Rows.len_text_neg z]
    have e : (0 : Int) - i = Int.ofNat i.natAbs := by simp; omega
    have := nat i.natAbs h
    rw [e]; omega
  · have e : i = Int.ofNat i.natAbs := by simp; omega
    have := nat i.natAbs h
    rw [← e] at this; omega
mutual
theorem nice_of : ∀ (n : Nat) (d : D), d.nice n = true → d.isPy = true ∧ d.py.canLay0 = true ∧ d.py.depth ≤ n ∧ d.py.showable = true ∧ d.py.intsShort 64 = true ∧ d.py.weight ≤ d.wt
  | _, .non, _ => ⟨rfl, rfl, Nat.zero_le _, rfl, rfl, Nat.le_refl _⟩
  | _, .bl _, _ => ⟨rfl, rfl, Nat.zero_le _, rfl, rfl, Nat.le_refl _⟩
  | _, .int i, h => by
    have h : i.natAbs < 2 ^ 200 := of_decide_eq_true (by simpa only [D.nice] using h)
    have l : i ≠ 0 → i.natAbs.log2 < 200 := fun z => (Nat.log2_lt (by omega)).mpr h
    have d := PyProof.Rows.digits10_le (k := 61) (n := i.natAbs) (by decide) (Nat.lt_of_lt_of_le h (by decide +kernel))
    refine ⟨rfl, rfl, Nat.zero_le _, ?_, ?_, ?_⟩
    · by_cases z : i = 0
      · subst z; decide
      · simp only [D.py, PyData.showable, decide_eq_true_eq]; have := l z; omega
    · simp only [D.py, PyData.intsShort, decide_eq_true_eq, PyData.shown]
      exact decide_eq_true (showLen i d)
    · by_cases z : i = 0
      · subst z; decide
      · have := l z
        simp only [D.py, PyData.weight, D.wt]
        split <;> omega
  | _, .str s, h => ⟨rfl, by simpa only [D.py, PyData.canLay0, D.nice] using h, Nat.zero_le _, rfl, rfl, Nat.le_refl _⟩
  | n + 1, .tup ds, h => by
    obtain ⟨a, b, c, d, e, f⟩ := niceA_of n ds (by simpa only [D.nice] using h)
    exact ⟨a, by simpa only [D.py, PyData.canLay0] using b, by simp only [D.py, PyData.depth]; omega, by simpa only [D.py, PyData.showable] using d, by simpa only [D.py, PyData.intsShort] using e, by simpa only [D.py, PyData.weight, D.wt] using f⟩
  | n + 1, .lst ds, h => by
    obtain ⟨a, b, c, d, e, f⟩ := niceA_of n ds (by simpa only [D.nice] using h)
    exact ⟨a, by simpa only [D.py, PyData.canLay0] using b, by simp only [D.py, PyData.depth]; omega, by simpa only [D.py, PyData.showable] using d, by simpa only [D.py, PyData.intsShort] using e, by simpa only [D.py, PyData.weight, D.wt] using f⟩
  | n + 1, .rls ds, h => by
    obtain ⟨a, b, c, d, e, f⟩ := niceA_of n ds (by simpa only [D.nice] using h)
    exact ⟨a, by simpa only [D.py, PyData.canLay0] using b, by simp only [D.py, PyData.depth]; omega, by simpa only [D.py, PyData.showable] using d, by simpa only [D.py, PyData.intsShort] using e, by simpa only [D.py, PyData.weight, D.wt] using f⟩
  | 0, .tup _, h => by simp [D.nice] at h
  | 0, .lst _, h => by simp [D.nice] at h
  | 0, .rls _, h => by simp [D.nice] at h
  | 0, .exc _ _, h => by simp [D.nice] at h
  | 0, .jar, h => by simp [D.nice] at h
  | 0, .v _, h => by simp [D.nice] at h
  | 0, .dic _, h => by simp [D.nice] at h
  | 0, .ins _ _, h => by simp [D.nice] at h
  | 0, .cell _, h => by simp [D.nice] at h
  | 0, .cls _, h => by simp [D.nice] at h
  | n + 1, .exc _ _, h => by simp [D.nice] at h
  | n + 1, .jar, h => by simp [D.nice] at h
  | n + 1, .v _, h => by simp [D.nice] at h
  | n + 1, .dic _, h => by simp [D.nice] at h
  | n + 1, .ins _ _, h => by simp [D.nice] at h
  | n + 1, .cell _, h => by simp [D.nice] at h
  | n + 1, .cls _, h => by simp [D.nice] at h
theorem niceA_of : ∀ (n : Nat) (ds : List D), D.niceA n ds = true → D.arePy ds = true ∧ PyData.canLayAll0 (D.pys ds) = true ∧ PyData.depthAll (D.pys ds) ≤ n ∧ PyData.showableAll (D.pys ds) = true ∧ PyData.intsShortAll 64 (D.pys ds) = true ∧ PyData.weightAll (D.pys ds) ≤ D.wtA ds
  | _, [], _ => ⟨rfl, rfl, Nat.zero_le _, rfl, rfl, Nat.le_refl _⟩
  | n, d :: ds, h => by
    have h : (d.nice n && D.niceA n ds) = true := by simpa only [D.niceA] using h
    rw [Bool.and_eq_true] at h
    obtain ⟨a, b, c, e, f, g⟩ := nice_of n d h.1
    obtain ⟨a', b', c', e', f', g'⟩ := niceA_of n ds h.2
    refine ⟨by simp only [D.arePy, a, a', Bool.and_self], by simp only [D.pys, PyData.canLayAll0, b, b', Bool.and_self], ?_, by simp only [D.pys, PyData.showableAll, e, e', Bool.and_self], by simp only [D.pys, PyData.intsShortAll, f, f', Bool.and_self], ?_⟩
    · simp only [D.pys, PyData.depthAll]; omega
    · simp only [D.pys, PyData.weightAll, D.wtA]; omega
end
theorem okRepr_of {n : Nat} {d : D} (h : d.nice n = true) (hn : n ≤ 60) (hw : d.wt ≤ 200000) : d.okRepr := by
  obtain ⟨a, b, c, e, f, g⟩ := nice_of n d h
  refine ⟨a, e, Nat.le_trans c hn, ?_⟩
  have := PyData.shown_le 64 (by decide) _ (PyData.leavesShort_of_canLay0 64 _ b f)
  have : sizeLine = 2 ^ 24 := rfl
  have : (2 : Nat) ^ 24 = 16777216 := by decide
  omega
mutual
theorem eqv_self : ∀ d : D, d.isPy = true → PyData.eqv d.py d.py = true
  | .non, _ => rfl
  | .bl b, _ => by simp [D.py, PyData.eqv]
  | .int _, _ => by simp [D.py, PyData.eqv]
  | .str _, _ => by simp [D.py, PyData.eqv]
  | .tup ds, h => by simpa only [D.py, PyData.eqv] using eqvA_self ds h
  | .lst ds, h => by simpa only [D.py, PyData.eqv] using eqvA_self ds h
  | .rls ds, h => by simpa only [D.py, PyData.eqv] using eqvA_self ds h
  | .exc _ _, h => by cases h
  | .jar, h => by cases h
  | .v _, h => by cases h
  | .dic _, h => by cases h
  | .ins _ _, h => by cases h
  | .cell _, h => by cases h
  | .cls _, h => by cases h
theorem eqvA_self : ∀ ds : List D, D.arePy ds = true → PyData.eqvAll (D.pys ds) (D.pys ds) = true
  | [], _ => rfl
  | d :: ds, h => by
    have h : (d.isPy && D.arePy ds) = true := h
    rw [Bool.and_eq_true] at h
    simp only [D.pys, PyData.eqvAll, eqv_self d h.1, eqvA_self ds h.2, Bool.and_self]
end
@[simp] theorem s_eqS {a b : Str} {R : S → Prop} : fEq (.str a) (.str b) R = R (.d (.bl (a == b))) := by
  unfold fEq; simp [D.cmpOk, D.okSc, D.scl, D.eqb, D.py, PyData.eqv]
@[simp] theorem s_neS {a b : Str} {R : S → Prop} : fNe (.str a) (.str b) R = R (.d (.bl (!(a == b)))) := by
  unfold fNe; simp [D.cmpOk, D.okSc, D.scl, D.eqb, D.py, PyData.eqv]
/-! ### nice lists -/
theorem niceA_all {n : Nat} : ∀ {ds : List D}, (∀ d ∈ ds, d.nice n = true) → D.niceA n ds = true
  | [], _ => by simp [D.niceA]
  | d :: ds, h => by
    rw [D.niceA, h d (List.mem_cons_self ..), niceA_all fun e he => h e (List.mem_cons_of_mem _ he)]
    rfl
theorem nice_lst {n : Nat} {ds : List D} (h : ∀ d ∈ ds, d.nice n = true) : (D.lst ds).nice (n + 1) = true := by rw [D.nice]; exact niceA_all h
theorem nice_int {n : Nat} {i : Int} (h : i.natAbs < 2 ^ 200) : (D.int i).nice n = true := by
  cases n <;> simp only [D.nice, decide_eq_true_eq] <;> exact h
theorem nice_bl {n : Nat} {b : Bool} : (D.bl b).nice n = true := by cases n <;> simp only [D.nice]
theorem nice_non {n : Nat} : (D.non).nice n = true := by cases n <;> simp only [D.nice]
theorem wtA_le {w : Nat} : ∀ {ds : List D}, (∀ d ∈ ds, d.wt ≤ w) → D.wtA ds ≤ (w + 1) * ds.length
  | [], _ => Nat.zero_le _
  | d :: ds, h => by
    have h1 := h d (List.mem_cons_self ..)
    have h2 := wtA_le fun e he => h e (List.mem_cons_of_mem _ he)
    rw [D.wtA, List.length_cons, Nat.mul_add]
    omega
/-! ### equality of data of one kind -/
theorem eqbA_map {α : Type} [DecidableEq α] {f : α → D} (hf : ∀ a b, D.eqb (f a) (f b) = decide (a = b)) : ∀ xs ys : List α, PyData.eqvAll (D.pys (xs.map f)) (D.pys (ys.map f)) = decide (xs = ys)
  | [], [] => by simp [D.pys, PyData.eqvAll]
  | [], _ :: _ => by simp [D.pys, PyData.eqvAll]
  | _ :: _, [] => by simp [D.pys, PyData.eqvAll]
  | x :: xs, y :: ys => by
    have e := hf x y
    rw [D.eqb] at e
    rw [List.map_cons, List.map_cons, D.pys, D.pys, PyData.eqvAll, e, eqbA_map hf xs ys, ← Bool.decide_and]
    exact decide_eq_decide.mpr (by rw [List.cons.injEq])
theorem eqb_tupM {α : Type} [DecidableEq α] {f : α → D} (hf : ∀ a b, D.eqb (f a) (f b) = decide (a = b)) (xs ys : List α) : D.eqb (.tup (xs.map f)) (.tup (ys.map f)) = decide (xs = ys) := by
  rw [D.eqb, D.py, D.py, PyData.eqv]; exact eqbA_map hf xs ys
theorem eqb_lstM {α : Type} [DecidableEq α] {f : α → D} (hf : ∀ a b, D.eqb (f a) (f b) = decide (a = b)) (xs ys : List α) : D.eqb (.lst (xs.map f)) (.lst (ys.map f)) = decide (xs = ys) := by
  rw [D.eqb, D.py, D.py, PyData.eqv]; exact eqbA_map hf xs ys
theorem eqb_int (a b : Int) : D.eqb (.int a) (.int b) = decide (a = b) := by
  simp only [D.eqb, D.py, PyData.eqv]; exact Bool.eq_iff_iff.mpr (by simp)
/-! ### the jar -/
theorem j_ix0 {R : S → Prop} : fIx .jar (.int 0) R = ∀ n : Int, R (.d (.int n)) := propext ⟨fun h n => h.2 n fun q => absurd q (by decide), fun h => ⟨.inl rfl, fun n _ => h n⟩⟩
theorem j_ix2 {R : S → Prop} : fIx .jar (.int 2) R = ∀ n : Int, R (.d (.int n)) := propext ⟨fun h n => h.2 n fun q => absurd q (by decide), fun h => ⟨.inr (.inr rfl), fun n _ => h n⟩⟩
theorem j_ix1 {R : S → Prop} : fIx .jar (.int 1) R = ∀ n : Int, (-(2 ^ 40) < n ∧ n < 2 ^ 40) → R (.d (.int n)) := propext ⟨fun h n b => h.2 n fun _ => b, fun h => ⟨.inr (.inl rfl), fun n b => h n (b rfl)⟩⟩
theorem j_s0 {n : Int} {N : S → Prop} : sIx (.d .jar) (.int 0) (.int n) N = N (.d .jar) := propext ⟨fun h => h.2.2, fun h => ⟨.inl rfl, ⟨n, rfl, fun q => absurd q (by decide)⟩, h⟩⟩
theorem j_s2 {n : Int} {N : S → Prop} : sIx (.d .jar) (.int 2) (.int n) N = N (.d .jar) := propext ⟨fun h => h.2.2, fun h => ⟨.inr (.inr rfl), ⟨n, rfl, fun q => absurd q (by decide)⟩, h⟩⟩
theorem j_s1 {n : Int} {N : S → Prop} : sIx (.d .jar) (.int 1) (.int n) N = ((-(2 ^ 40) < n ∧ n < 2 ^ 40) ∧ N (.d .jar)) := propext ⟨fun ⟨_, ⟨m, e, b⟩, h⟩ => by
  injection e with e
  subst e
  exact ⟨b rfl, h⟩, fun h => ⟨.inr (.inl rfl), ⟨n, rfl, fun _ => h.1⟩, h.2⟩⟩
theorem fmod_pos {a b : Int} (h : 0 < b) : 0 ≤ a.fmod b ∧ a.fmod b < b := ⟨Int.fmod_nonneg_of_pos a h, Int.fmod_lt_of_pos a h⟩
theorem cut_map {α β : Type} {f : α → β} {xs : List α} {lo hi : Option Int} : cutD (xs.map f) lo hi = (cutD xs lo hi).map f := by
  unfold cutD
  rw [List.length_map, List.map_take, List.map_drop]
/-! ### loops over ranges and maps -/
end DL


/-! DL10: comprehensions of two fors; frozen slots; divmod into a jar. -/
namespace DL
open PySem PySem.Spec L2
section
variable {X : Cx} {G : Gx} {T : WX} {pos p : Pos}
/-! ### an own slot is frozen at once -/
end
section
variable {X : Cx} {G : Gx} {T : WX} {pos : Pos} {t t1 : WT}
/-! ### comprehensions of two fors: the cells stay -/
end
end DL


/-! DL11: set of a list of ints, sorted(set(..)). -/
namespace DL
open PySem PySem.Spec L2 PyProof.Rows
section
variable {P : Program} {w : World} {A : Around} {E : Value → Shared → Prop} {s : Shared}
end
/-! ### sorted(set(xs)) -/
section
variable {X : Cx} {G : Gx} {T : WX} {e : Expr} {pos p : Pos}
end
end DL


/-! DL12: divmod, a jar beside a name, own dicts. -/
namespace DL
open PySem PySem.Spec L2
/-! ### divmod -/
theorem call_divmodX {X : Cx} : CallR X (.builtin "divmod") (fun xs H Q => ∃ i j, xs = [.int i, .int j] ∧ CDivW i j ∧ ∀ p, H p = none → Q (.ref p) (upd H p (.tup [.int (i / j), .int (i % j)]))) :=
  fun pins s σ H xs us Q I r ⟨i, j, e, c, q⟩ => call_divmodW pins s σ H xs us Q I r ⟨i, j, e, ⟨c.1, PyProof.noPylong_of_log2 c.2⟩, q⟩
def fDivmod (ds : List D) (R : S → Prop) : Prop := match ds with
  | [.int i, .int j] => CDivW i j ∧ R (.d (.tup [.int (i / j), .int (i % j)]))
  | _ => False
theorem cd_divmod {K : PySem.W.Frag} : CaD K (fun xs H Q => ∃ i j, xs = [.int i, .int j] ∧ CDivW i j ∧ ∀ p, H p = none → Q (.ref p) (upd H p (.tup [.int (i / j), .int (i % j)]))) fDivmod := by
  intro G W ρ σ H ds xs R Q ok h f k
  match ds, h, f with
  | [.int i, .int j], .cons (.int _) (.cons (.int _) .nil), f =>
    exact ⟨i, j, rfl, f.1, fun p hp => k _ _ _ _ f.2 (.newF ok hp) (.of (res_tup ok hp (.cons (.int _) (.cons (.int _) .nil))))⟩
section
variable {X : Cx} {G : Gx} {T : WX} {e : Expr} {w : WE} {pos p tpos : Pos}
/-! ### x[k], y = e: x a jar -/
def wAsgJ (i j : Nat) (k : Int) (w : WE) : WS := fun E ρ => w E.ex ρ fun d ρ1 => ∃ d1 d2, d.frz = .tup [d1, d2] ∧ ρ1.sl[i]? = some (some (.d .jar)) ∧ sIx (.d .jar) (.int k) d1 fun _ => E.nx (ρ1.set j (some (.d d2)))
theorem ds_asgJ (i j : Nat) {k : Int} {x y : Str} {idx : Expr} {py pt : Pos} {kt : Nat} (he : DE X G T e w) (hk : PE X idx fun _ H Q => Q (.int k) H) (hNd : X.N.Nodup) (hN : X.N[i]? = some x := by rfl) (hj : X.N[j]? = some y := by rfl) (hv : Vis X.env.scope x := by first | exact Or.inl rfl | exact Or.inr (Or.inl rfl) | exact Or.inr (Or.inr rfl)) (hd : (x == ("__debug__" : Str)) = false := by decide) (hcd : (x == ("__classdict__" : Str)) = false := by decide)
    (hx : Loc X.env.scope y := by first | exact .inl rfl | exact .inr rfl) (hf : X.fn y = true ∨ X.env.scope.names.lookup y = some .local := by first | exact .inr rfl | exact .inl rfl | assumption)
    (ha : ∀ v, assign (.Subscript (.Name x p) idx tpos) X.env v = (do
      let ov ← holding [v] (eval (.Name x p) X.env)
      let iv ← holding [v, ov] (eval idx X.env)
      standAt tpos
      holding [v, ov, iv] (setItem ov iv v)
      release [v, ov, iv] []) := by intro _; rfl)
    (hc : X.calm = true := by rfl) (hn : (assignEach [.Subscript (.Name x p) idx tpos, .Name y py] X.env).length = 2 := by rfl) (hst : (assignEach [.Subscript (.Name x p) idx tpos, .Name y py] X.env).findIdx? (·.1) = none := by rfl)
    (hs1 : (assignEach [.Subscript (.Name x p) idx tpos, .Name y py] X.env).map (·.2) = assign (.Subscript (.Name x p) idx tpos) X.env :: (assignEach [.Name y py] X.env).map (·.2) := by rfl) (hs2 : (assignEach [.Name y py] X.env).map (·.2) = assign (.Name y py) X.env :: (assignEach [] X.env).map (·.2) := by rfl)
    (hs : swapsWithSole [.Tuple [.Subscript (.Name x p) idx tpos, .Name y py] kt pt] e pos.line X.env = pure false := by rfl) (hw : swappedStores [.Tuple [.Subscript (.Name x p) idx tpos, .Name y py] kt pt] e X.env = pure none := by rfl)
    (h1 : (assignEach [.Tuple [.Subscript (.Name x p) idx tpos, .Name y py] kt pt] X.env).map (·.2) = [assign (.Tuple [.Subscript (.Name x p) idx tpos, .Name y py] kt pt) X.env] := by rfl) :
    DS X G T (.Assign [.Tuple [.Subscript (.Name x p) idx tpos, .Name y py] kt pt] e pos) (wAsgJ i j k w) :=
  ps_weak (ps_asg he (pg_tup hc (pgs_cons (pg_sub (pv i hN hv hd hcd) hk set_list ha) (pgs_cons (pg_name hNd hj hx hf) pgs_nil hs2) hs1) hn hst) hs hw h1) fun D σ H ⟨W, ρ, E, ok, h, hn, hr, hb, hc, hx⟩ => by
    refine lE_then (R := fun d ρ1 => ∃ d1 d2, d = .tup [d1, d2] ∧ ρ1.sl[i]? = some (some (.d .jar)) ∧ sIx (.d .jar) (.int k) d1 fun _ => E.nx (ρ1.set j (some (.d d2)))) ok h (hx.z σ ρ) fun d ρ1 W1 v H1 ⟨d1, d2, ed, ej, hj1⟩ g1 dv => ?_
    subst ed
    cases dv with
    | tup sq da =>
      cases da with
      | cons da1 da2 =>
        cases da2 with
        | cons da2 da3 =>
          cases da3
          rename_i a v1 v2
          refine ⟨a, [v1, v2], rfl, sq.sq, rfl, ⟨v1, [v2], rfl, ?_⟩⟩
          obtain ⟨z, ez, r⟩ := g1.ok.val i _ ej
          have r' : Dn X.K W1 H1 .jar z := r
          cases r' with
          | jar ja jn =>
            rename_i a2
            obtain ⟨x0, y0, z0, e3, b3⟩ := (g1.ok.al.j _ ja).jar jn
            obtain ⟨hj, ⟨n, rfl, hb⟩, hN'⟩ := hj1
            cases da1
            refine ⟨_, ez, ?_⟩
            have fin : ∀ (xs : List V) {W3 : Wd}, Go X.K G σ ρ1 W1 H1 ρ1 W3 (upd H1 a2 (.lst xs)) → gCons (gName j) gNil [v2] σ (upd H1 a2 (.lst xs)) D.nx := fun xs W3 g3 => by
              refine ⟨v2, [], rfl, rfl, ?_⟩
              exact hn _ W3 _ _ hN' (g3.ok.set (i := j) (d := .d d2) (da2.le g3.stp.le) fun o => by cases o) (g1.stp.le.trans g3.stp.le)
            rcases hj with rfl | rfl | rfl
            · exact ⟨a2, _, 0, 0, rfl, rfl, e3, rfl, fin _ (g1.ok.wjar (x := n) (y := y0) (z := z0) ja jn b3)⟩
            · exact ⟨a2, _, 1, 1, rfl, rfl, e3, rfl, fin _ (g1.ok.wjar (x := x0) (y := n) (z := z0) ja jn (hb rfl))⟩
            · exact ⟨a2, _, 2, 2, rfl, rfl, e3, rfl, fin _ (g1.ok.wjar (x := x0) (y := y0) (z := n) ja jn b3)⟩
end
end DL


/-! DL13: own dicts. -/
namespace DL
open PySem PySem.Spec L2
def valD (kvs : List (Key × D)) (k : Key) : Option D := (kvs.find? fun kv => decide (kv.1 = k)).map (·.2)
def putD (kvs : List (Key × D)) (k : Key) (v : D) : List (Key × D) :=
  if (kvs.any fun kv => decide (kv.1 = k)) = true then kvs.map (fun kv => if kv.1 = k then (kv.1, v) else kv) else kvs ++ [(k, v)]
def D.key : D → Option Key
  | .int i => some (.inl i)
  | .str s => some (.inr s)
  | _ => none
def keyD : Key → D
  | .inl i => .int i
  | .inr s => .str s
section
variable {K : PySem.W.Frag} {W : Wd} {H : Hp}
theorem DnK.val {k : Key} : ∀ {ds : List (Key × D)} {vs : List (Key × V)}, DnK K W H ds vs → (valD ds k = none ∧ valV vs k = none) ∨ ∃ d v, valD ds k = some d ∧ valV vs k = some v ∧ Dn K W H d v
  | _, _, .nil => .inl ⟨rfl, rfl⟩
  | (k', d) :: ds, (_, v) :: vs, .cons h1 h2 => by
    by_cases e : k' = k
    · exact .inr ⟨d, v, by simp [valD, e], by simp [valV, e], h1⟩
    · rcases DnK.val (k := k) h2 with ⟨a, b⟩ | ⟨d', v', a, b, c⟩
      · exact .inl ⟨by simpa [valD, e] using a, by simpa [valV, e] using b⟩
      · exact .inr ⟨d', v', by simpa [valD, e] using a, by simpa [valV, e] using b, c⟩
theorem DnK.any {k : Key} : ∀ {ds : List (Key × D)} {vs : List (Key × V)}, DnK K W H ds vs → (ds.any fun kv => decide (kv.1 = k)) = vs.any fun kv => decide (kv.1 = k)
  | _, _, .nil => rfl
  | _, _, .cons h1 h2 => by simp only [List.any_cons, DnK.any h2]
theorem DnK.repl {k : Key} {d : D} {v : V} (h : Dn K W H d v) : ∀ {ds : List (Key × D)} {vs : List (Key × V)}, DnK K W H ds vs → DnK K W H (ds.map fun kv => if kv.1 = k then (kv.1, d) else kv) (vs.map fun kv => if kv.1 = k then (kv.1, v) else kv)
  | _, _, .nil => .nil
  | (k', x) :: ds, (_, y) :: vs, .cons h1 h2 => by
    by_cases e : k' = k
    · simp only [List.map_cons, e, if_true]; exact .cons h (DnK.repl h h2)
    · simp only [List.map_cons, e, if_false]; exact .cons h1 (DnK.repl h h2)
theorem DnK.snoc {k : Key} {d : D} {v : V} (h : Dn K W H d v) : ∀ {ds : List (Key × D)} {vs : List (Key × V)}, DnK K W H ds vs → DnK K W H (ds ++ [(k, d)]) (vs ++ [(k, v)])
  | _, _, .nil => .cons h .nil
  | _, _, .cons h1 h2 => .cons h1 (DnK.snoc h h2)
theorem DnK.put {k : Key} {d : D} {v : V} (h : Dn K W H d v) {ds : List (Key × D)} {vs : List (Key × V)} (r : DnK K W H ds vs) : DnK K W H (putD ds k d) (putK vs k v) := by
  unfold putD putK
  rw [r.any]
  split
  · exact r.repl h
  · exact r.snoc h
theorem DnK.length : ∀ {ds : List (Key × D)} {vs : List (Key × V)}, DnK K W H ds vs → ds.length = vs.length
  | _, _, .nil => rfl
  | _, _, .cons _ h => congrArg (· + 1) h.length
theorem DnK.keys : ∀ {ds : List (Key × D)} {vs : List (Key × V)}, DnK K W H ds vs → ds.map (·.1) = vs.map (·.1)
  | _, _, .nil => rfl
  | _, _, .cons _ h => by simp only [List.map_cons, h.keys]
theorem dn_key {d : D} {x : V} {k : Key} (h : Dn K W H d x) (e : d.key = some k) : x = kV k := by
  cases h <;> cases e <;> rfl
theorem dn_keyD (k : Key) : Dn K W H (keyD k) (kV k) := by
  cases k
  · exact .int _
  · exact .str _
/-- a dict read at a key -/
theorem dgetS {s : S} {x : V} {kvs : List (Key × D)} {k : Key} (h : Rs K W H s x) (e : s.frz = .dic kvs) : ∃ a vs, x = .ref a ∧ Rd H a (.dK vs) ∧ DnK K W H kvs vs := by
  cases s with
  | own ds => cases e
  | odic ds =>
    cases e
    obtain ⟨p, vs, h1, h2, h3⟩ := h
    exact ⟨p, vs, h1, .inl h2, h3⟩
  | ldic ds =>
    cases e
    obtain ⟨p, vs, od, h1, _, h2, h3⟩ := h
    exact ⟨p, vs, h1, .inr ⟨od, h2⟩, h3⟩
  | oins C ds => cases e
  | d d =>
    have e' : d = .dic kvs := e
    subst e'
    have h' : Dn K W H (.dic kvs) x := h
    cases h' with
    | dic h1 h2 h3 => exact ⟨_, _, rfl, h2.rd, h3⟩
end
section
variable {X : Cx} {G : Gx} {T : WX} {a b c e : Expr} {w wk wd : WE} {pos p apos cpos : Pos}
def dGet (d k : D) (N : D → Prop) : Prop := match d, k.key with
  | .dic kvs, some κ => ∃ v, valD kvs κ = some v ∧ N v
  | _, _ => False
def dGetE (d k z : D) (N : D → Prop) : Prop := match d, k.key with
  | .dic kvs, some κ => N ((valD kvs κ).getD z)
  | _, _ => False
/-- x[k], x a slot with a dict -/
def wDget (i : Nat) (wk : WE) : WE := fun Z ρ R => (∃ s0, ρ.sl[i]? = some (some s0)) ∧ wk Z ρ fun k ρ1 => match ρ1.sl[i]? with
  | some (some s) => dGet s.frz k.frz fun z => R (.d z) ρ1
  | _ => False
theorem dget_of {d k : D} {N : D → Prop} (h : dGet d k N) : ∃ kvs κ v, d = .dic kvs ∧ k.key = some κ ∧ valD kvs κ = some v ∧ N v := by
  unfold dGet at h
  split at h
  · rename_i kvs κ e
    obtain ⟨v, h1, h2⟩ := h
    exact ⟨kvs, κ, v, rfl, e, h1, h2⟩
  · exact h.elim
theorem de_dget (i : Nat) {x : Str} (hu : X.A.units + 1 < cLine) (hb : DE X G T b wk) (hN : X.N[i]? = some x := by rfl) (hv : Vis X.env.scope x := by first | exact Or.inl rfl | exact Or.inr (Or.inl rfl) | exact Or.inr (Or.inr rfl)) (hd : (x == ("__debug__" : Str)) = false := by decide)
    (hcd : (x == ("__classdict__" : Str)) = false := by decide) (hs : NoSl b := by intro _ _; rfl) : DE X G T (.Subscript (.Name x p) b pos) (wDget i wk) :=
  pe_weak (pe_dget hu (pv i hN hv hd hcd) hb hs) fun σ H Q ⟨W, ρ, R, Z, ok, ⟨⟨s0, e0⟩, h⟩, hR, hZ⟩ => by
    obtain ⟨x, _, ex, _⟩ := ok.look e0
    refine ⟨x, ex, ?_⟩
    refine lE_then (R := fun k ρ1 => match ρ1.sl[i]? with | some (some s) => dGet s.frz k fun z => R (.d z) ρ1 | _ => False) ok h hZ fun k ρ1 W1 y H1 h1 g1 d1 => ?_
    split at h1
    · rename_i s e1
      obtain ⟨x', e2, r⟩ := g1.ok.val i s e1
      rw [ex] at e2; cases e2
      obtain ⟨kvs, κ, v, f1, f2, f3, f4⟩ := dget_of h1
      obtain ⟨q, vs, rfl, hq, da⟩ := dgetS (k := κ) r f1
      rcases da.val (k := κ) with ⟨z, _⟩ | ⟨d', v', z1, z2, z3⟩
      · rw [f3] at z; cases z
      · rw [f3] at z1; cases z1
        exact ⟨q, v', rfl, .inl ⟨vs, κ, hq, dn_key d1 f2, z2.symm⟩, hR _ ρ1 W1 v' H1 f4 g1 (.of z3)⟩
    · exact h1.elim
/-- x[k] = e, x a slot with a dict of its own -/
def wDput (i : Nat) (wk w : WE) : WS := fun E ρ => w E.ex ρ fun d ρ1 => (∃ s0, ρ1.sl[i]? = some (some s0)) ∧ wk E.ex ρ1 fun k ρ2 => match ρ2.sl[i]?, k.frz.key with
  | some (some (.odic kvs)), some κ => kvs.length < sizeLine ∧ E.nx (ρ2.set i (some (.odic (putD kvs κ d.frz))))
  | _, _ => False
theorem ds_dput (i : Nat) {x : Str} {idx : Expr} {tpos : Pos} (hu : X.A.units + 1 < cLine) (he : DE X G T e w) (hk : DE X G T idx wk) (hN : X.N[i]? = some x := by rfl) (hv : Vis X.env.scope x := by first | exact Or.inl rfl | exact Or.inr (Or.inl rfl) | exact Or.inr (Or.inr rfl)) (hd : (x == ("__debug__" : Str)) = false := by decide) (hcd : (x == ("__classdict__" : Str)) = false := by decide)
    (hs : swapsWith e (some (.Subscript (.Name x p) idx tpos)) pos.line X.env = pure false := by rfl) :
    DS X G T (.Assign [.Subscript (.Name x p) idx tpos] e pos) (wDput i wk w) :=
  ps_weak (ps_dput hu (pv i hN hv hd hcd) hk he hs) fun D σ H ⟨W, ρ, E, ok, h, hn, hr, hb, hc, hx⟩ => by
    refine lE_then (R := fun d ρ1 => (∃ s0, ρ1.sl[i]? = some (some s0)) ∧ wk E.ex ρ1 fun k ρ2 => match ρ2.sl[i]?, k.frz.key with
      | some (some (.odic kvs)), some κ => kvs.length < sizeLine ∧ E.nx (ρ2.set i (some (.odic (putD kvs κ d))))
      | _, _ => False) ok h (hx.z σ ρ) fun d ρ1 W1 x1 H1 ⟨⟨s0, e0⟩, h1⟩ g1 d1 => ?_
    obtain ⟨y, _, ey, _⟩ := g1.ok.look e0
    refine ⟨y, ey, ?_⟩
    refine lE_then (R := fun k ρ2 => match ρ2.sl[i]?, k.key with
      | some (some (.odic kvs)), some κ => kvs.length < sizeLine ∧ E.nx (ρ2.set i (some (.odic (putD kvs κ d))))
      | _, _ => False) g1.ok h1 ((hx.z σ ρ).go g1) fun k ρ2 W2 x2 H2 h2 g2 d2 => ?_
    have g12 := g1.trans g2
    split at h2
    · rename_i kvs κ e2 ek
      obtain ⟨y1, ey1, r⟩ := g2.ok.val i _ e2
      rw [ey] at ey1; cases ey1
      have d1' := d1.le g2.stp.le
      obtain ⟨q, vs, rfl, hq, da⟩ := r
      have nf := (g2.ok.frs q ⟨i, _, e2, rfl, ey⟩).1
      have l : Le W2 H2 W2 (upd H2 q (.dK (putK vs κ x1))) := .same fun a z => upd_ne fun z2 => nf (by rw [← z2]; exact z)
      have g3 := g2.ok.wslot (s' := .odic (putD kvs κ d)) (o := .dK (putK vs κ x1)) e2 ey rfl rfl ⟨q, _, rfl, upd_same, (DnK.put d1' da).le l⟩
      exact ⟨q, _, rfl, .inl ⟨vs, κ, hq, dn_key d2 ek, by rw [← da.length]; exact h2.1, rfl⟩, hn _ W2 σ _ h2.2 g3.ok (g12.stp.le.trans g3.stp.le)⟩
    · exact h2.elim
/-! ### displays -/
def wDic0 : WE := fun _ ρ R => R (.odic []) ρ
theorem de_dic0 : DE X G T (.Dict [] [] pos) wDic0 :=
  pe_weak pe_dnewK fun σ H Q ⟨W, ρ, R, Z, ok, h, hR, hZ⟩ q hq => hR _ ρ W _ _ h (.new ok hq) ⟨⟨q, [], rfl, upd_same, .nil⟩, fun _ q' e => by
    cases e
    refine ⟨fun z => ?_, fun z => ?_, fun z => ?_, hq⟩
    · obtain ⟨o, e⟩ := ok.al.f q z; rw [hq] at e; cases e
    · obtain ⟨u, e⟩ := (ok.al.j q z).some; rw [hq] at e; cases e
    · obtain ⟨_, _, o, e⟩ := ok.al.c q z; rw [hq] at e; cases e⟩
/-! ### an own thing goes from slot to slot, out of the def -/
theorem Ok.drop {K : PySem.W.Frag} {σ : L2.St} {ρ : Rho} {W : Wd} {H : Hp} (ok : Ok K G W ρ σ H) (j : Nat) : Ok K G W (ρ.set j none) σ H := by
  have sub : ∀ (i : Nat) (d : S), (ρ.set j none).sl[i]? = some (some d) → ρ.sl[i]? = some (some d) := fun i d h => by
    have h : (ρ.sl.set j none)[i]? = some (some d) := h
    rcases set_get h with ⟨_, z⟩ | ⟨_, z⟩
    · cases z
    · exact z
  have ow : ∀ a, Ow (ρ.set j none) σ a → Ow ρ σ a := fun a ⟨i, d, h1, h2, h3⟩ => ⟨i, d, sub i d h1, h2, h3⟩
  exact ⟨ok.len.trans List.length_set.symm, fun i d h => ok.val i d (sub i d h), fun a h => ok.frs a (ow a h), fun i j d e a h1 h2 o1 o2 s1 s2 => ok.inj i j d e a (sub i d h1) (sub j e h2) o1 o2 s1 s2, ok.al, ok.en, ok.mm⟩
/-! ### for k in x, x a slot with a dict of its own: it is not changed any more -/
end
end DL


/-! DL14: how the readings of DL10 to DL13 are shown. -/
namespace DL
open PySem PySem.Spec L2
variable {E : DEnds} {ρ : Rho} {Z : ZK} {R : S → Rho → Prop} {u v : WS} {w wa wb wc wk wd : WE} {t t1 : WT} {i j : Nat}
theorem CxG.u1 {X : Cx} {T : WX} {k : Nat} (c : CxG X T k) : X.A.units + 1 < cLine := by have := c.u64; omega
theorem key_int {k : Int} : (D.int k).key = some (.inl k) := rfl
theorem key_str {k : Str} : (D.str k).key = some (.inr k) := rfl
/-! ### tables -/
theorem asgJ_tup {a b : D} {P : D → D → Prop} : (∃ d1 d2, D.tup [a, b] = .tup [d1, d2] ∧ P d1 d2) = P a b := by
  refine propext ⟨fun ⟨d1, d2, e, h⟩ => ?_, fun h => ⟨a, b, rfl, h⟩⟩
  cases e
  exact h
end DL


/-! DL15: own classes: attributes read and stored, properties, methods, classmethods, new instances. -/
namespace DL
open PySem PySem.Spec L2
/-! ### attributes -/
def FldX (K : PySem.W.Frag) (mg : Str → Option Value) (C f : Str) : Prop := ∃ Ca, mg C = some (.ref Ca) ∧ Cls K Ca ∧ NoAttr K Ca f
/-- the attributes of an instance -/
def D.fsOf (C : Str) (x : D) (μ : Mem) : Option (List (Str × D)) := match x with
  | .ins C' fs => if C' = C then some fs else none
  | .cell i => match μ[i]? with
    | some c => if c.cls = C then some c.fs else none
    | none => none
  | _ => none
theorem DnF.lookup {K : PySem.W.Frag} {W : Wd} {H : Hp} {f : Str} : ∀ {ds : List (Str × D)} {vs : List (Str × V)} {d : D}, DnF K W H ds vs → ds.lookup f = some d → ∃ v, vs.lookup f = some v ∧ Dn K W H d v
  | _, _, d, .cons (k := k) h1 h2, e => by
    rw [List.lookup_cons] at e
    split at e
    · rename_i q
      cases e
      exact ⟨_, by rw [List.lookup_cons, q], h1⟩
    · rename_i q
      obtain ⟨v, e1, e2⟩ := h2.lookup e
      exact ⟨v, by rw [List.lookup_cons, q]; exact e1, e2⟩
theorem DnF.lookup_none {K : PySem.W.Frag} {W : Wd} {H : Hp} {f : Str} : ∀ {ds : List (Str × D)} {vs : List (Str × V)}, DnF K W H ds vs → ds.lookup f = none → vs.lookup f = none
  | _, _, .nil, _ => rfl
  | _, _, .cons (k := k) h1 h2, e => by
    rw [List.lookup_cons] at e ⊢
    split at e
    · cases e
    · exact h2.lookup_none e
def putA (f : Str) (v : D) : List (Str × D) → List (Str × D)
  | [] => [(f, v)]
  | (g, x) :: r => if g = f then (g, v) :: r else (g, x) :: putA f v r
theorem DnF.put {K : PySem.W.Frag} {W : Wd} {H : Hp} {f : Str} {d : D} {v : V} (h : Dn K W H d v) : ∀ {ds : List (Str × D)} {vs : List (Str × V)}, DnF K W H ds vs → DnF K W H (putA f d ds) (putF f v vs)
  | _, _, .nil => .cons h .nil
  | _, _, .cons (k := k) h1 h2 => by
    show DnF K W H (if k = f then (k, d) :: _ else (k, _) :: putA f d _) (if k = f then (k, v) :: _ else (k, _) :: putF f v _)
    split
    · exact .cons h h2
    · exact .cons h1 (h2.put h)
theorem DnF.length {K : PySem.W.Frag} {W : Wd} {H : Hp} : ∀ {ds : List (Str × D)} {vs : List (Str × V)}, DnF K W H ds vs → ds.length = vs.length
  | _, _, .nil => rfl
  | _, _, .cons _ h => congrArg (· + 1) h.length
section
variable {K : PySem.W.Frag} {G : Gx} {σ : L2.St} {ρ : Rho} {W : Wd} {H : Hp} {μ : Mem}
/-- an instance, where it lies -/
theorem fsOf_at (ok : Ok K G W ρ σ H) {C : Str} {x : D} {v : V} {fs : List (Str × D)} {Cz : Addr} (hz : W.g C = some (.ref Cz)) (d : Dn K W H x v) (e : x.fsOf C ρ.mm = some fs) : ∃ a Ca dx vs, v = .ref a ∧ W.g C = some (.ref Ca) ∧ H a = some (.ins Ca dx vs) ∧ DnF K W H fs vs := by
  unfold D.fsOf at e
  split at e
  · split at e
    · rename_i q; cases e; subst q
      cases d with
      | ins h1 h2 h3 h4 => exact ⟨_, _, _, _, rfl, h2, h3, h4⟩
    · cases e
  · split at e
    · rename_i c hc
      split at e
      · rename_i q; cases e; subst q
        cases d with
        | cell h =>
          obtain ⟨Ca, dx, vs, h1, h2, h3⟩ := (ok.mm.at_ _ c _ hc h).ins hz
          exact ⟨_, _, _, _, rfl, h1, h2, h3⟩
      · cases e
    · cases e
  · cases e
end
section
variable {X : Cx} {G : Gx} {T : WX} {a b c e o value : Expr} {w wa wb : WE} {pos pos' p apos cpos : Pos} {i : Nat} {f C : Str}
def fldGet (C f : Str) (x : D) (μ : Mem) (R : D → Prop) : Prop := ∃ fs v, x.fsOf C μ = some fs ∧ fs.lookup f = some v ∧ R v
/-- e.f, an attribute of an instance of C -/
def wFld (C f : Str) (wa : WE) : WE := fun Z ρ R => wa Z ρ fun x ρ1 => fldGet C f x.frz ρ1.mm fun v => R (.d v) ρ1
theorem de_fld (C : Str) (hG : G.W.g = X.mg) (F : FldX X.K X.mg C f) (ha : DE X G T a wa) (hb : attributeBase a f X.env (eval a X.env) = eval a X.env := by rfl) : DE X G T (.Attribute a f pos) (wFld C f wa) :=
  pe_weak (pe_fld ha hb) fun σ H Q ⟨W, ρ, R, Z, ok, h, hR, hZ⟩ => by
    refine lE_then (R := fun x ρ1 => fldGet C f x ρ1.mm fun v => R (.d v) ρ1) ok h hZ fun d ρ1 W1 x H1 h1 g1 d1 => ?_
    obtain ⟨fs, v, e1, e2, e3⟩ := h1
    obtain ⟨Cb, hm, cl, na⟩ := F
    obtain ⟨a, Ca, dx, vs, rfl, hC, hH, hfs⟩ := fsOf_at g1.ok (by rw [g1.ok.en.le.g, hG, hm]) d1 e1
    rw [g1.ok.en.le.g, hG, hm] at hC
    cases hC
    obtain ⟨u, l1, l2⟩ := hfs.lookup e2
    exact ⟨a, Cb, dx, vs, u, rfl, hH, cl, na, l1, hR _ ρ1 W1 u H1 e3 g1 (.of l2)⟩
/-- self.f in an __init__: the slot's own instance -/
def wFldV (C f : Str) (i : Nat) : WE := fun Z ρ R => match ρ.sl[i]? with
  | some (some (.oins _ C' fs)) => C' = C ∧ ∃ v, fs.lookup f = some v ∧ R (.d v) ρ
  | _ => False
/-! ### stores -/
/-- self.f = e in an __init__ -/
def wStF (C f : Str) (i : Nat) (wa : WE) : WS := fun E ρ => (∃ s, ρ.sl[i]? = some (some s)) ∧ wa E.ex ρ fun x ρ1 => match ρ1.sl[i]? with
  | some (some (.oins q C' fs)) => C' = C ∧ fs.length < 1000 ∧ E.nx (ρ1.set i (some (.oins q C (putA f x.frz fs))))
  | _ => False
theorem ds_stF (C : Str) (i : Nat) {x : Str} (hG : G.W.g = X.mg) (F : FldX X.K X.mg C f) (hv' : DE X G T value wa) (hs : swapsWith value (some (.Attribute (.Name x p) f pos')) pos.line X.env = pure false := by rfl) (hN : X.N[i]? = some x := by rfl) (hv : Vis X.env.scope x := by first | exact Or.inl rfl | exact Or.inr (Or.inl rfl) | exact Or.inr (Or.inr rfl)) (hd : (x == ("__debug__" : Str)) = false := by decide)
    (hcd : (x == ("__classdict__" : Str)) = false := by decide) : DS X G T (.Assign [.Attribute (.Name x p) f pos'] value pos) (wStF C f i wa) :=
  ps_weak (ps_fld (pv i hN hv hd hcd) hv' hs) fun D σ H ⟨W, ρ, E, ok, ⟨⟨s, es⟩, h⟩, hN', hR, hB, hC', hX⟩ => by
    refine lE_then (R := fun x ρ1 => match ρ1.sl[i]? with | some (some (.oins q C' fs)) => C' = C ∧ fs.length < 1000 ∧ E.nx (ρ1.set i (some (.oins q C (putA f x fs)))) | _ => False) ok h (hX.z σ ρ) fun d ρ1 W1 y H1 h1 g1 d1 => ?_
    split at h1
    · rename_i q C' fs e
      obtain ⟨rfl, hl, hn⟩ := h1
      obtain ⟨x, ex, Ca, dx, vs, rfl, hC, hH, hfs⟩ := g1.ok.val i _ e
      obtain ⟨Cb, hm, cl, na⟩ := F
      have hC0 := hC
      rw [g1.ok.en.le.g, hG, hm] at hC
      cases hC
      refine ⟨_, ex, q, Ca, dx, vs, rfl, hH, cl, na, by rw [← hfs.length]; exact hl, ?_⟩
      have hO : Ow ρ1 σ q := ⟨i, _, e, rfl, ex⟩
      have l : Le W1 H1 W1 (upd H1 q (.ins Ca dx (putF f y vs))) := .same fun a z => upd_ne fun w => (g1.ok.frs q hO).1 (by rw [← w]; exact z)
      have g2 := g1.ok.wslot (s' := .oins q C' (putA f d fs)) (o := .ins Ca dx (putF f y vs)) e ex rfl rfl ⟨Ca, dx, _, rfl, hC0, upd_same, (hfs.put d1).le l⟩
      exact hN' _ W1 σ _ hn g2.ok (g1.stp.le.trans l)
    · exact h1.elim
end
end DL


/-! DL16: calls of properties, methods, classes. -/
namespace DL
open PySem PySem.Spec L2
def DfP (P : Program) (w : World) (K : PySem.W.Frag) (mg : Str → Option Value) (base : Heap) (k : Nat) (C f : Str) (ps : List Str) (wf : WF) : Prop :=
  ∃ Ca p g fd, mg C = some (.ref Ca) ∧ Cls K Ca ∧ PropOf K Ca f p g ∧ Binds K fd ps [] ∧ FnG P w K mg base k g fd ps wf
/-- a method: its def st -/
def DfM (P : Program) (w : World) (K : PySem.W.Frag) (mg : Str → Option Value) (base : Heap) (k : Nat) (C m qual : Str) (st : Stmt) (ps : List Str) (wf : WF) : Prop :=
  ∃ Ca f fd, mg C = some (.ref Ca) ∧ Cls K Ca ∧ Meth K Ca m f ∧ Fun K m qual st f fd ∧ Binds K fd ps [] ∧ FnG P w K mg base k f fd ps wf
section
variable {X : Cx} {G : Gx} {T : WX} {a b c e o value : Expr} {w wa wb wo : WE} {pos pos' p apos cpos : Pos} {i k j : Nat} {f C m : Str} {ps : List Str} {wf : WF} {es : List Expr} {kws : List Keyword} {u uk : WA}
def wProp (C : Str) (wf : WF) (wa : WE) : WE := fun Z ρ R => wa Z ρ fun x ρ1 => (∃ fs, x.frz.fsOf C ρ1.mm = some fs) ∧ wf (fun _ _ => False) [x.frz] ρ1.mm fun s μ => R s ⟨ρ1.sl, μ⟩
theorem de_prop (Cx : CxG X T k) (hG : G.W.g = X.mg) (F : DfP X.prog X.w X.K X.mg X.base j C f ps wf) (hps : ps.length = 1) (hj : j + 1 ≤ k) (ha : DE X G T a wa) (hb : attributeBase a f X.env (eval a X.env) = eval a X.env := by rfl) : DE X G T (.Attribute a f pos) (wProp C wf wa) := by
  obtain ⟨Ca, p, g, fd, hm, c, hp, hbi, F⟩ := F
  refine ⟨fun pins s σ H Q I ⟨W, ρ, R, Z, ok, h, hR, hZ⟩ => ?_⟩
  have arg : lE X.K G T wa σ H fun x H1 => ∃ d W1 ρ1, Go X.K G σ ρ W H ρ1 W1 H1 ∧ Dn X.K W1 H1 d x ∧ (∃ fs, d.fsOf C ρ1.mm = some fs) ∧ wf (fun _ _ => False) [d] ρ1.mm fun s μ => R s ⟨ρ1.sl, μ⟩ := by
    refine lE_then (R := fun x ρ1 => (∃ fs, x.fsOf C ρ1.mm = some fs) ∧ wf (fun _ _ => False) [x] ρ1.mm fun s μ => R s ⟨ρ1.sl, μ⟩) ok h hZ fun d ρ1 W1 x H1 h1 g1 d1 => ?_
    exact ⟨d, W1, ρ1, g1, d1, h1.1, h1.2⟩
  refine attr_of hb (thn (ha.run pins s σ H _ I arg) fun uv s1 ⟨x, H1, I1, rx, d, W1, ρ1, g1, d1, ⟨fs, e1⟩, hw⟩ => ?_)
  obtain ⟨a, Cb, dx, vs, rfl, hC, hH, hfs⟩ := fsOf_at g1.ok (by rw [g1.ok.en.le.g, hG, hm]) d1 e1
  rw [g1.ok.en.le.g, hG, hm] at hC
  cases hC
  obtain rfl : uv = Value.ref a := rx
  obtain ⟨mA, O, _, _, _, _⟩ := ins_get I1.hok hH
  obtain ⟨od, J, _⟩ := O.look
  obtain ⟨rest, hrec⟩ := hp.rec_
  have I2 := I1.tok (s1.toks + 1)
  have hc : (PySem.W.clsIn X.K Ca).isSome = true := by
    obtain ⟨cd, hc, _⟩ := PySem.W.any_some c.hd
    rw [hc]
    rfl
  refine PySem.W.get_bind I1.kIn J (PySem.W.plainGet_of (c.get f)).1 (PySem.W.findObj_data hc hp.at_ hp.get hp.tak) (PySem.W.plainGet_of (c.get f)).2 (wpAny_call (PySem.W.prop_get (s := { s1 with toks := s1.toks + 1 }) I1.kIn hrec ?_))
  have hr : Room (j + 1) X.A := Cx.rm.mono hj
  refine codeAny_mono (F X.A.in1 X.stack { s1 with toks := s1.toks + 1 } H1 ⟨[.ref a], []⟩ [.ref a] [.ref a] [d] W1 ρ1.mm (fun s μ => R s ⟨ρ1.sl, μ⟩) (fun _ _ => False) Q (fun _ _ _ => False) Cx.gd hr.in1 I2.env0.in1 (by
      have := hbi { s1 with toks := s1.toks + 1 } [.ref a] I2.kIn (by simpa using hps.symm)
      simpa using this) (.cons rfl .nil) (by simpa using hps.symm) g1.ok.al g1.ok.mm (g1.ok.en.le.g.trans hG) (.cons d1 .nil) hw
    (fun d' μ W' x H' hr rt => hR d' ⟨ρ1.sl, μ⟩ W' x H' hr (g1.trans (g1.ok.grow rt.stp rt.al rt.mm)) (rt.res.up g1.stp.up)) (fun _ _ _ _ _ _ q => q.elim)) fun r s' hq => ?_
  match r, hq with
  | .error er, hq => obtain ⟨_, _, _, _, _, _, _, _, _, _, _, _, z⟩ := hq; exact z.elim
  | .ok (.ret u), hq =>
    obtain ⟨v, H', I3, rv, q3⟩ := I2.after hq
    show wpAny _ _ (handedOut u) _ _ _
    rw [PySem.W.handedOut_of (handed_of rv)]
    exact wpAny_pure ⟨v, H', I3, rv, q3⟩
/-! ### o.m(..) -/
def wMeth (C m : Str) (n : Nat) (wf : WF) (wo : WE) (u : WA) : WE := fun Z ρ R => wo Z ρ fun x ρ1 => (∃ fs, x.frz.fsOf C ρ1.mm = some fs ∧ fs.lookup m = none) ∧ u Z ρ1 fun ds ρ2 => ds.length + 1 = n ∧ wf (fun y μ => Z y ⟨ρ2.sl, μ⟩) (x.frz :: ds) ρ2.mm fun s μ => R s ⟨ρ2.sl, μ⟩
theorem meth_then {σ : L2.St} {ρ : Rho} {W : Wd} {H : Hp} {Z : ZK} {R : D → Rho → Prop} {mg : Str → Option Value} {K : PySem.W.Frag} {Ca : Addr} (hm : mg C = some (.ref Ca)) (hG : G.W.g = mg) (ok : Ok K G W ρ σ H) (hZ : lZ K G T Z σ ρ W H)
    (h : wo Z ρ fun x ρ1 => (∃ fs, x.frz.fsOf C ρ1.mm = some fs ∧ fs.lookup m = none) ∧ R x.frz ρ1) :
    lE K G T wo σ H fun x H1 => ∃ d W1 ρ1 a dx vs, x = .ref a ∧ Go K G σ ρ W H ρ1 W1 H1 ∧ Dn K W1 H1 d (.ref a) ∧ H1 a = some (.ins Ca dx vs) ∧ vs.lookup m = none ∧ R d ρ1 := by
  refine lE_then (R := fun x ρ1 => (∃ fs, x.fsOf C ρ1.mm = some fs ∧ fs.lookup m = none) ∧ R x ρ1) ok h hZ fun d ρ1 W1 x H1 h1 g1 d1 => ?_
  obtain ⟨⟨fs, e1, e2⟩, hr⟩ := h1
  obtain ⟨a, Cb, dx, vs, rfl, hC, hH, hfs⟩ := fsOf_at g1.ok (by rw [g1.ok.en.le.g, hG, hm]) d1 e1
  rw [g1.ok.en.le.g, hG, hm] at hC
  cases hC
  exact ⟨d, W1, ρ1, a, dx, vs, rfl, g1, d1, hH, hfs.lookup_none e2, hr⟩
theorem de_meth {qual : Str} {st : Stmt} {pl : Sem Bool} (Cx : CxG X T k) (hG : G.W.g = X.mg) (F : DfM X.prog X.w X.K X.mg X.base j C m qual st ps wf) (hj : j ≤ k) (ho : DE X G T o wo) (ha : DA X G T (e :: es) u)
    (hst : starEach (e :: es) X.env = (false, eval e X.env) :: starEach es X.env := by rfl) (hpl : (backTo pos (starEach es X.env)).any (·.1) = false := by rfl)
    (ht : eval (.Call (.Attribute o m apos) (e :: es) [] pos) X.env = (do
      let ov ← eval o X.env
      standAt apos.atName
      let (f, first) ← holding [ov] (getMethod ov m pl)
      callWith pos f first (backTo pos (starEach (e :: es) X.env)) (backToKw pos (keywordEach [] X.env))) := by rfl) :
    DE X G T (.Call (.Attribute o m apos) (e :: es) [] pos) (wMeth C m ps.length wf wo u) := by
  obtain ⟨Ca, f, fd, hm, c, hM, _, hbi, F⟩ := F
  refine ⟨fun pins s σ H Q I ⟨W, ρ, R, Z, ok, h, hR, hZ⟩ => ?_⟩
  refine PySem.W.methodCall_KW (pl := pl) (thn (ho.run pins s σ H _ I (meth_then (R := fun x ρ1 => u Z ρ1 fun ds ρ2 => ds.length + 1 = ps.length ∧ wf (fun y μ => Z y ⟨ρ2.sl, μ⟩) (x :: ds) ρ2.mm fun s μ => R s ⟨ρ2.sl, μ⟩) hm hG ok hZ h)) fun uv s1 ⟨x, H1, I1, rx, d, W1, ρ1, a, dx, vs, ex, g1, d1, hH, hl, hu⟩ => ?_) ht
  subst ex
  obtain rfl : uv = Value.ref a := rx
  refine getmeth_ok I1 hH c hM hl ?_
  have args : lA X.K G T u σ H1 fun vs H2 => ∃ ds W2 ρ2, Go X.K G σ ρ1 W1 H1 ρ2 W2 H2 ∧ DnA X.K W2 H2 ds vs ∧ ds.length + 1 = ps.length ∧ wf (fun y μ => Z y ⟨ρ2.sl, μ⟩) (d :: ds) ρ2.mm fun s μ => R s ⟨ρ2.sl, μ⟩ :=
    ⟨W1, ρ1, _, Z, g1.ok, hu, fun ds ρ2 W2 xs H2 ⟨h1, h2⟩ g da => ⟨ds, W2, ρ2, g, da, h1, h2⟩, hZ.go g1⟩
  refine PySem.W.callWith_K (first := [.ref a]) (h₀ := X.base) I.ok.mod.kin hM.kp (thn (ha.run pos pins s1 σ H1 _ I1 args) fun us s2 ⟨vs, H2, I2, r, ds, W2, ρ2, g2, da, hl2, hw⟩ => ⟨I2.kIn, ?_⟩) hst hpl
  refine wp_call (us := .ref a :: us) (vs := .ref a :: vs) (ds := d :: ds) Cx hG F hj hbi I2 (.cons rfl r) hl2 g2.ok (.cons (d1.le g2.stp.le) da) hw (fun d' μ W' x H' hr g' rs => hR d' _ W' x H' hr ((g1.trans g2).trans g') (rs.up (g1.trans g2).stp.up)) fun x μ W' H' c dx hz g' ex => hZ x _ W' H' c dx hz ((g1.trans g2).trans g') ex
theorem de_meth0 {qual : Str} {st : Stmt} {pl : Sem Bool} (Cx : CxG X T k) (hG : G.W.g = X.mg) (F : DfM X.prog X.w X.K X.mg X.base j C m qual st ps wf) (hj : j ≤ k) (ho : DE X G T o wo)
    (ht : eval (.Call (.Attribute o m apos) [] [] pos) X.env = (do
      let ov ← eval o X.env
      standAt apos.atName
      let (f, first) ← holding [ov] (getMethod ov m pl)
      callWith pos f first (backTo pos (starEach [] X.env)) (backToKw pos (keywordEach [] X.env))) := by rfl) :
    DE X G T (.Call (.Attribute o m apos) [] [] pos) (wMeth C m ps.length wf wo wNil) := by
  obtain ⟨Ca, f, fd, hm, c, hM, _, hbi, F⟩ := F
  refine ⟨fun pins s σ H Q I ⟨W, ρ, R, Z, ok, h, hR, hZ⟩ => ?_⟩
  refine PySem.W.methodCall_KW (pl := pl) (thn (ho.run pins s σ H _ I (meth_then (R := fun x ρ1 => wNil Z ρ1 fun ds ρ2 => ds.length + 1 = ps.length ∧ wf (fun y μ => Z y ⟨ρ2.sl, μ⟩) (x :: ds) ρ2.mm fun s μ => R s ⟨ρ2.sl, μ⟩) hm hG ok hZ h)) fun uv s1 ⟨x, H1, I1, rx, d, W1, ρ1, a, dx, vs, ex, g1, d1, hH, hl, hu⟩ => ?_) ht
  subst ex
  obtain rfl : uv = Value.ref a := rx
  refine getmeth_ok I1 hH c hM hl ?_
  refine PySem.W.callWith_K0 (first := [.ref a]) I1.kIn hM.kp ?_
  exact wp_call (us := [.ref a]) (vs := [.ref a]) (ds := [d]) Cx hG F hj hbi I1 (.cons rfl .nil) hu.1 g1.ok (.cons d1 .nil) hu.2 (fun d' μ W' x H' hr g' rs => hR d' _ W' x H' hr (g1.trans g') (rs.up g1.stp.up)) fun x μ W' H' c dx hz g' ex => hZ x _ W' H' c dx hz (g1.trans g') ex
end
end DL


/-! DL17: new instances of own classes by their __init__. -/
namespace DL
open PySem PySem.Spec L2
/-- the __init__ at f: what wf tells as .ins C fs are the attributes that it has stored -/
def FnI (P : Program) (w : World) (K : PySem.W.Frag) (mg : Str → Option Value) (base : Heap) (k : Nat) (f : Addr) (fd : FuncData) (C : Str) (ps : List Str) (wf : WF) : Prop :=
  ∀ (A : Around) (outer : List PySem.Env) (s : Shared) (H H0 : Hp) (args : Args) (us : List Value) (vs : List V) (ds : List D) (W : Wd) (μ : Mem) (R : S → Mem → Prop) (Z : Exn → Mem → Prop) (Q : VK) (E : XK) (p Ca dx : Addr),
    A.guards = some [] → Room k A → Env0 P w K mg base A outer s H → BindsTo s fd args (ps.zip us) → Vals (.ref p :: vs) us → ds.length + 1 = ps.length → Al W H → Cells K W μ H → W.g = mg → DnA K W H ds vs →
    mg C = some (.ref Ca) → H p = some (.ins Ca dx []) → Step no1 W H0 W H → (¬ W.F p ∧ ¬ W.J p ∧ ¬ p ∈ W.C ∧ H0 p = none) → wf Z ds μ R →
    (∀ fs μ' W' H', R (.d (.ins C fs)) μ' → Ret K W H0 W' H' (.oins p C fs) μ' (.ref p) → Q .non H') → (∀ x μ' W' H' c dx, Z x μ' → RetX K W H0 W' H' x μ' c dx → E c dx H') →
    codeAny (model P w) A (.call (.ref f) args) (CR (L2.CX P w) outer P w H s Q E) s
def slI (N : List Str) (p : Addr) (C : Str) (ds : List D) : Sl := some (.oins p C []) :: (ds.map (fun d => some (.d d)) ++ List.replicate (N.length - (ds.length + 1)) none)
theorem startI_ok {K : PySem.W.Frag} {W : Wd} {H H0 : Hp} {N : List Str} {ds : List D} {vs : List V} {μ : Mem} {p Ca dx : Addr} {C : Str} (al : Al W H) (mm : Cells K W μ H) (h : DnA K W H ds vs) (hC : W.g C = some (.ref Ca)) (hp : H p = some (.ins Ca dx [])) (st : Step no1 W H0 W H) (fr : ¬ W.F p ∧ ¬ W.J p ∧ ¬ p ∈ W.C ∧ H0 p = none) :
    Ok K ⟨W, H0⟩ W ⟨slI N p C ds, μ⟩ (L2.start N (.ref p :: vs)) H := by
  have hl := h.length
  have rest : ∀ (i : Nat) (d : S), (slI N p C ds)[i + 1]? = some (some d) → ∃ e, d = .d e ∧ ds[i]? = some e := fun i d e => by
    unfold slI at e
    rw [List.getElem?_cons_succ] at e
    by_cases q : i < ds.length
    · rw [List.getElem?_append_left (by rw [List.length_map]; exact q), List.getElem?_map] at e
      cases z : ds[i]? with
      | none => rw [z] at e; cases e
      | some y => rw [z] at e; cases e; exact ⟨y, rfl, rfl⟩
    · rw [List.getElem?_append_right (by rw [List.length_map]; omega), List.getElem?_replicate] at e
      split at e <;> cases e
  have at0 : (L2.start N (.ref p :: vs))[0]? = some (some (.ref p)) := rfl
  have own0 : ∀ (i : Nat) (d : S), (slI N p C ds)[i]? = some (some d) → d.isOwn = true → i = 0 := fun i d e o => by
    cases i with
    | zero => rfl
    | succ i => obtain ⟨y, rfl, _⟩ := rest i d e; cases o
  refine ⟨?_, fun i d e => ?_, fun a ⟨i, d, e, o, q⟩ => ?_, fun i j d e a h1 h2 o1 o2 _ _ => ?_, al, st, mm⟩
  · unfold L2.start slI
    dsimp only
    rw [List.length_append, List.length_map, List.length_replicate, List.length_cons, List.length_cons, List.length_append, List.length_map, List.length_replicate, hl]
    omega
  · cases i with
    | zero => cases e; exact ⟨_, at0, Ca, dx, [], rfl, hC, hp, .nil⟩
    | succ i =>
      obtain ⟨y, rfl, hy⟩ := rest i d e
      obtain ⟨x, e1, e2⟩ := h.get hy
      refine ⟨x, ?_, e2⟩
      unfold L2.start
      rw [List.map_cons, List.cons_append, List.getElem?_cons_succ, List.getElem?_append_left (by rw [List.length_map]; exact (List.getElem?_eq_some_iff.mp e1).1), List.getElem?_map, e1]
      rfl
  · have := own0 i d e o
    subst this
    rw [at0] at q
    cases q
    exact fr
  · rw [own0 i d h1 o1, own0 j e h2 o2]
section
variable {P : Program} {w : World} {K : PySem.W.Frag} {mg : Str → Option Value} {base : Heap}
theorem ok_init {x qual : Str} {st : Stmt} {f : Addr} {fd : FuncData} {N ps : List Str} {k : Nat} {C : Str} {wf : WF} {wb : WS} (F : Fun K x qual st f fd) (Sc : FnScope N ps (defScope st))
    (hw : ∀ Z ds μ R (p : Addr), ds.length + 1 = ps.length → wf Z ds μ R → wb ⟨fun ρ => ∃ fs, ρ.sl[0]? = some (some (.oins p C fs)) ∧ R (.d (.ins C fs)) ρ.mm, fun _ _ => False, fun _ => False, fun _ => False, fun x ρ => Z x ρ.mm⟩ ⟨slI N p C ds, μ⟩)
    (hb : ∀ (cdv : Value) (A : Around) (outer : List PySem.Env) (s : Shared) (H H0 : Hp) (E : XK) (W : Wd), W.g = mg → CxG (cxOf (L2.CX P w) P w K mg base N qual (defScope st) f cdv A outer s H E) (fun cls d _ H => E cls d H) k →
      DSs (cxOf (L2.CX P w) P w K mg base N qual (defScope st) f cdv A outer s H E) ⟨W, H0⟩ (fun cls d _ H => E cls d H) (defBody st) wb) :
    FnI P w K mg base (k + 1) f fd C ps wf := by
  intro A outer s H H0 args us vs ds W μ R Z Q E p Ca dx hg hr e0 hbd r hlen al mm hgm da hC hp stp fr hwf hQ hE
  obtain ⟨oc, od, kV, doc, pm, an, cdv, ct, osl, rfl, lk, hcd⟩ := F.ex
  have hl : (V.ref p :: vs).length = ps.length := by rw [List.length_cons, ← da.length]; exact hlen
  have inK : K.In s.heap := e0.mod.kin.keeps fun b o q => (e0.bs b o q).1
  have noLim : s.heap.NoLimit := e0.mod.nolimit.keeps fun b o q => (e0.bs b o q).1
  have kinds : ∀ y ∈ ps.zip us, (defScope st).names.lookup y.1 = some .local ∨ ((defScope st).names.lookup y.1 = some .cell ∧ ((cellsFrom (s.heap.objs.size + 1) (defScope st).names []).lookup y.1).isSome = true) := fun ⟨n, v⟩ hy =>
    (Sc.par n (List.of_mem_zip hy).1).imp id fun q => ⟨q, PySem.W.cellsFrom_some _ _ _ (.inl q)⟩
  refine codeAny_call_function hr.depth (inK _ _ lk) rfl Sc.co Sc.gen rfl (PySem.W.codeRec_of inK hcd) (hbd _ _ _ _ ?_)
  refine wpAny_newFunctionEnv_cells Sc.kind kinds fun env he s1 xx => ?_
  subst he
  refine ⟨noLim.keeps xx.toInCall.keep, codeAny_func ?_⟩
  have I : Inv (cxOf (L2.CX P w) P w K mg base N qual (defScope st) f cdv A outer s H E) [] (L2.start N (.ref p :: vs)) H s1 := inv_start Sc hr.hd e0 hl r xx
  have Cx : CxG (cxOf (L2.CX P w) P w K mg base N qual (defScope st) f cdv A outer s H E) (fun cls d _ H => E cls d H) k :=
    ⟨takes_of rfl rfl rfl rfl, hg, hr.deeper _, passes_of rfl⟩
  have D := hb cdv A outer s H H0 E W hgm Cx
  have body := hw Z ds μ R p hlen hwf
  have ok0 := startI_ok (N := N) (C := C) al mm da (by rw [hgm]; exact hC) hp stp fr
  have x0 : ∀ {σ' : L2.St} {v : V}, True := trivial
  refine wpAny_mono (D.run [] s1 (L2.start N (.ref p :: vs)) H { nx := fun _ H' => Q .non H', rt := Q } I ⟨W, ⟨slI N p C ds, μ⟩, _, ok0, body, fun ρ' W' σ' H' ⟨fs, h0, h⟩ o l => ?_, fun d ρ' W' σ' y H' h o l rr => h.elim, fun _ _ _ _ q => q.elim, fun _ _ _ _ q => q.elim, fun z ρ' W' σ' H' c dx h o l ex => ?_⟩) (fun fl s' hs => ?_) fun e s' hs => hs
  · obtain ⟨x, e1, e2⟩ := o.val 0 _ h0
    have rs : Rs K W' H' (.oins p C fs) (.ref p) := by
      obtain ⟨Cb, dy, vs', e3, e4⟩ := e2
      exact ⟨Cb, dy, vs', rfl, e4⟩
    refine hQ fs _ W' H' h ⟨o.al, o.en, ⟨rs, fun _ q hq => ?_⟩, o.mm⟩
    cases hq
    obtain ⟨_, _, _, e3, _⟩ := e2
    subst e3
    exact o.frs p ⟨0, _, h0, rfl, e1⟩
  · exact hE _ _ W' _ _ _ h ⟨o.al, o.en, ex, o.mm⟩
  have fin : ∀ {σ' : L2.St} {H' : Hp} {v : V} {u : Value}, Inv (cxOf (L2.CX P w) P w K mg base N qual (defScope st) f cdv A outer s H E) [] σ' H' s' → RelV v u → Q v H' → CE outer P w H s Q u s' :=
    fun {σ' H' v u} J rv q => ⟨v, H', J.os, J.bare, J.base, J.hok, rv, q⟩
  match fl, hs with
  | .ret u, ⟨v, σ', H', J, rv, q⟩ => exact fin J rv q
  | .next, ⟨σ', H', J, q⟩ => exact fin (v := V.non) (u := Value.none) J rfl q
  | .brk, ⟨_, _, _, q⟩ => exact False.elim q
  | .cont, ⟨_, _, _, q⟩ => exact False.elim q
end
/-- a fresh instance is let be a cell -/
theorem Go.addC {K : PySem.W.Frag} {G : Gx} {σ : L2.St} {ρ ρ1 : Rho} {W W1 : Wd} {H H1 : Hp} {p : Addr} {C : Str} {fs : List (Str × D)} (ok : Ok K G W ρ σ H) (g : Go K G σ ρ W H ρ1 W1 H1) (r : Res K H W1 H1 (.oins p C fs) (.ref p)) :
    Go K G σ ρ W H ⟨ρ1.sl, ρ1.mm ++ [⟨C, fs⟩]⟩ (W1.addC p) H1 ∧ Dn K (W1.addC p) H1 (.cell ρ1.mm.length) (.ref p) := by
  obtain ⟨Ca, dx, vs, _, hC, hp, hf⟩ := r.rs
  obtain ⟨nf, nj, nc, h0⟩ := r.fr rfl p rfl
  have l : Le W1 H1 (W1.addC p) H1 := ⟨fun _ h => h, fun _ h => h, fun _ _ => rfl, fun i a h => by
    show (W1.C ++ [p])[i]? = some a
    rw [List.getElem?_append_left (List.getElem?_eq_some_iff.mp h).1]; exact h, rfl, rfl⟩
  have memC : ∀ a, a ∈ (W1.addC p).C → a ∈ W1.C ∨ a = p := fun a h => by
    have h : a ∈ W1.C ++ [p] := h
    simpa using h
  have al : Al (W1.addC p) H1 := ⟨g.ok.al.f, fun a q => (g.ok.al.j a q).le l rfl, g.ok.al.d, fun a h => (memC a h).elim (g.ok.al.c a) fun e => by subst e; exact ⟨nf, nj, _, hp⟩, by
    show (W1.C ++ [p]).Nodup
    rw [List.nodup_append]
    exact ⟨g.ok.al.nd, by simp, fun a ha b hb => by simp at hb; subst hb; rintro rfl; exact nc ha⟩, g.ok.al.t⟩
  have own : ∀ a, Ow ρ1 σ a → a ≠ p := fun a h e => by
    obtain ⟨u, hu⟩ := ok.here (g.sub a h)
    rw [e, h0] at hu
    cases hu
  refine ⟨⟨⟨g.ok.len, fun i e h => ?_, fun a h => ?_, g.ok.inj, al, ?_, ?_⟩, ?_, g.sub⟩, .cell ?_⟩
  · obtain ⟨y, e1, e2⟩ := g.ok.val i e h
    exact ⟨y, e1, e2.le l fun _ _ _ => rfl⟩
  · obtain ⟨a1, a2, a4, a3⟩ := g.ok.frs a h
    exact ⟨a1, a2, fun z => (memC a z).elim a4 (own a h), a3⟩
  · exact ⟨g.ok.en.le.trans l, g.ok.en.nF, g.ok.en.nJ, fun a q => (memC a q).elim (g.ok.en.nC a) fun e => .inr (by rw [e]; exact ok.upG h0), g.ok.en.st, g.ok.en.up⟩
  · refine ⟨?_, g.ok.mm.tab, fun i cl a h1 h2 => ?_⟩
    · show (ρ1.mm ++ [_]).length = (W1.C ++ [p]).length
      rw [List.length_append, List.length_append, g.ok.mm.len]; rfl
    · have h1 : (ρ1.mm ++ [⟨C, fs⟩])[i]? = some cl := h1
      have h2 : (W1.C ++ [p])[i]? = some a := h2
      by_cases q : i < ρ1.mm.length
      · rw [List.getElem?_append_left q] at h1
        rw [List.getElem?_append_left (by rw [← g.ok.mm.len]; exact q)] at h2
        exact (g.ok.mm.at_ i cl a h1 h2).le l rfl
      · rw [List.getElem?_append_right (by omega)] at h1
        rw [List.getElem?_append_right (by rw [← g.ok.mm.len]; omega), ← g.ok.mm.len] at h2
        have : i - ρ1.mm.length = 0 := by
          have := (List.getElem?_eq_some_iff.mp h1).1
          simp at this; omega
        rw [this] at h1 h2
        cases h1; cases h2
        exact .inl ⟨Ca, dx, vs, hC, hp, hf.le l⟩
  · exact ⟨g.stp.le.trans l, g.stp.nF, g.stp.nJ, fun a q => (memC a q).elim (g.stp.nC a) fun e => .inr (by rw [e]; exact h0), g.stp.st, g.stp.up⟩
  · show (W1.C ++ [p])[ρ1.mm.length]? = some p
    rw [g.ok.mm.len, List.getElem?_append_right (Nat.le_refl _), Nat.sub_self]; rfl
/-! ### C(..) -/
/-- how a new instance is told from then on: frozen, or as a cell -/
def WF.mk (cell : Bool) (C : Str) (wf : WF) : WF := fun Z ds μ R => wf Z ds μ fun s μ' => match s with
  | .d (.ins _ fs) => if cell = true then R (.d (.cell μ'.length)) (μ' ++ [⟨C, fs⟩]) else R s μ'
  | _ => False
def DfI (P : Program) (w : World) (K : PySem.W.Frag) (mg : Str → Option Value) (base : Heap) (k : Nat) (C qual : Str) (st : Stmt) (ps : List Str) (wf : WF) : Prop :=
  ∃ Ca f fd, mg C = some (.ref Ca) ∧ Cls K Ca ∧ Mk K Ca f ∧ Fun K "__init__" qual st f fd ∧ Binds K fd ps [] ∧ FnI P w K mg base k f fd C ps wf
section
variable {X : Cx} {G : Gx} {T : WX} {a b c e o value : Expr} {w wa wb wo : WE} {pos pos' p apos cpos : Pos} {i k j : Nat} {f C m : Str} {ps : List Str} {wf : WF} {es : List Expr} {kws : List Keyword} {u uk : WA}
theorem run_mk {pins : List (Addr × Obj)} {σ : L2.St} {ρ : Rho} {W : Wd} {H : Hp} {s : Shared} {us0 us : List Value} {kw : List (Str × Value)} {vs : List V} {ds : List D} {R : S → Mem → Prop} {Z : Exn → Mem → Prop} {Q : VK} {Ca fa : Addr} {fd : FuncData} (cell : Bool) (Cx : CxG X T k) (hG : G.W.g = X.mg)
    (hm : X.mg C = some (.ref Ca)) (M : Mk X.K Ca fa) (F : FnI X.prog X.w X.K X.mg X.base j fa fd C ps wf) (hj : j + 1 ≤ k) (hb : ∀ (s' : Shared) (x : Value), X.K.In s'.heap → BindsTo s' fd ⟨x :: us0, kw⟩ (ps.zip (x :: us))) (I : Inv X pins σ H s) (r : Vals vs us) (hl : ds.length + 1 = ps.length)
    (ok : Ok X.K G W ρ σ H) (da : DnA X.K W H ds vs) (h : WF.mk cell C wf Z ds ρ.mm R)
    (hR : ∀ d μ W' x H', R d μ → Go X.K G σ ρ W H ⟨ρ.sl, μ⟩ W' H' → Res X.K H W' H' d x → Q x H') (hZ : ∀ x μ W' H' c dx, Z x μ → Go X.K G σ ρ W H ⟨ρ.sl, μ⟩ W' H' → ExAt X.K W' H' x c dx → T c dx σ H') :
    wpAny (model X.prog X.w) X.A (call (.ref Ca) us0 kw) (EP X pins σ Q) X.xe s := by
  have I2 := Inv.made (C := Ca) I
  have hp0 : H (s.heap.objs.size + 1) = none := I.hok.fresh (Nat.le_succ _)
  have hd0 : H s.heap.objs.size = none := I.hok.fresh (Nat.le_refl _)
  have ne : s.heap.objs.size ≠ s.heap.objs.size + 1 := Nat.ne_of_lt (Nat.lt_succ_self _)
  generalize hp : s.heap.objs.size + 1 = p at *
  generalize hd : s.heap.objs.size = dx at *
  have s1 : Step no1 W H W (upd H dx (.own p)) := step_new ok.al hd0
  have a1 : Al W (upd H dx (.own p)) := al_new ok.al hd0
  have hp1 : (upd H dx (.own p)) p = none := by rw [upd_ne (Ne.symm ne)]; exact hp0
  have st : Step no1 W H W (upd (upd H dx (.own p)) p (.ins Ca dx [])) := s1.trans (step_new a1 hp1) fun _ q => q.elim
  have al : Al W (upd (upd H dx (.own p)) p (.ins Ca dx [])) := al_new a1 hp1
  have kc : ∀ a ∈ W.C, (upd (upd H dx (.own p)) p (.ins Ca dx [])) a = H a := fun a q => (cells_new a1 hp1 a q).trans (cells_new ok.al hd0 a q)
  have mm := ok.mm.keep st.le rfl kc
  have fr : ¬ W.F p ∧ ¬ W.J p ∧ ¬ p ∈ W.C ∧ H p = none := by
    refine ⟨fun q => ?_, fun q => ?_, fun q => ?_, hp0⟩
    · obtain ⟨_, z⟩ := ok.al.f p q
      rw [hp0] at z; cases z
    · obtain ⟨_, z⟩ := (ok.al.j p q).some
      rw [hp0] at z; cases z
    · obtain ⟨_, _, _, z⟩ := ok.al.c p q
      rw [hp0] at z; cases z
  have gd : (X.A.under (.builtin "type.__call__" ⟨.ref Ca :: us0, kw⟩)).guards = some [] := by
    unfold Around.under
    rw [Cx.gd]
    rfl
  subst hd
  subst hp
  refine wpAny_call (make_map (f := fa) I.kIn M.makes M.init (beq_iff_eq.mp M.fn) (codeAny_mono (F _ X.stack _ _ H ⟨Value.ref (s.heap.objs.size + 1) :: us0, kw⟩ (Value.ref (s.heap.objs.size + 1) :: us) vs ds W ρ.mm _ Z (fun v H2 => v = .non ∧ Q (.ref (s.heap.objs.size + 1)) H2) (fun c dx H' => T c dx σ H') (s.heap.objs.size + 1) Ca s.heap.objs.size gd
    ((Cx.rm.mono hj).make Ca us0 kw) (I2.env0.make Ca us0 kw) (hb _ _ I2.kIn) (.cons rfl r) hl al mm (ok.en.le.g.trans hG) (da.le st.le) hm upd_same st fr h
    (fun fs μ' W' H' hr rt => ⟨rfl, ?_⟩) (fun x μ W' H' c dx hz rt => hZ x μ W' H' c dx hz (ok.grow rt.stp rt.al rt.mm) rt.ex)) fun r s' hq' => ?_))
  · have g := ok.grow rt.stp rt.al rt.mm
    dsimp only at hr
    cases cell with
    | true =>
      rw [if_pos rfl] at hr
      obtain ⟨g2, d2⟩ := g.addC ok rt.res
      exact hR _ _ _ _ _ hr g2 (.of d2)
    | false =>
      rw [if_neg (by decide)] at hr
      obtain ⟨W2, g2, d2, l⟩ := g.freeze ok rt.res
      exact hR _ _ W2 _ _ hr g2 (.of d2)
  · match r, hq' with
    | .error e, hq => exact Cx.tk e s' (XE.of_call (W := T) I2 (fun _ _ _ q => q) hq)
    | .ok (.ret u), hq =>
      obtain ⟨v, H', I3, rv, ev, q3⟩ := I2.after hq
      subst ev
      exact ⟨rv, ⟨V.ref (s.heap.objs.size + 1), H', I3, rfl, q3⟩⟩
variable {p0 : Str}
theorem de_make {x qual : Str} {st : Stmt} (cell : Bool) (Cx : CxG X T k) (hG : G.W.g = X.mg) (F : DfI X.prog X.w X.K X.mg X.base j x qual st (p0 :: ps) wf) (hj : j + 1 ≤ k) (ha : DA X G T (e :: es) u)
    (hg : Gl X x := by rfl) (hdb : (x == ("__debug__" : Str)) = false := by decide) (he : starEach (e :: es) X.env = (false, eval e X.env) :: starEach es X.env := by rfl) (hpl : (backTo pos (starEach es X.env)).any (·.1) = false := by rfl) :
    DE X G T (.Call (.Name x p) (e :: es) [] pos) (wCall ps.length (WF.mk cell x wf) u) := by
  obtain ⟨Ca, f, fd, hm, c, M, Fu, hbi, F⟩ := F
  refine ⟨fun pins s σ H Q I ⟨W, ρ, R, Z, ok, h, hR, hZ⟩ => ?_⟩
  refine wpAny_Call_Name_kw (ld_glob I hg hm ?_ hdb)
  have args : lA X.K G T u σ H fun vs H1 => ∃ ds W1 ρ1, Go X.K G σ ρ W H ρ1 W1 H1 ∧ DnA X.K W1 H1 ds vs ∧ ds.length = ps.length ∧ WF.mk cell x wf (fun x μ => Z x ⟨ρ1.sl, μ⟩) ds ρ1.mm fun s μ => R s ⟨ρ1.sl, μ⟩ :=
    ⟨W, ρ, _, Z, ok, h, fun ds ρ1 W1 xs H1 ⟨h1, h2⟩ g d => ⟨ds, W1, ρ1, g, d, h1, h2⟩, hZ⟩
  refine PySem.W.callWith_K (h₀ := X.base) I.ok.mod.kin M.kp (thn (ha.run pos pins s σ H _ I args) fun us s1 ⟨vs, H1, I1, r, ds, W1, ρ1, g, d, h1, h2⟩ => ⟨I1.kIn, ?_⟩) he hpl
  exact run_mk cell Cx hG hm M F hj (fun s' x X' => by
    have := hbi s' (x :: us) X' (by rw [List.append_nil, List.length_cons, ← r.length, ← d.length, h1]; rfl)
    rwa [List.append_nil] at this) I1 r (by rw [h1]; rfl) g.ok d h2 (fun d μ W' x H' hr g' rs => hR d _ W' x H' hr (g.trans g') (rs.up g.stp.up)) fun x μ W' H' c dx hz g' ex => hZ x _ W' H' c dx hz (g.trans g') ex
end
end DL


/-! DL18: classmethods, isinstance with own classes. -/
namespace DL
open PySem PySem.Spec L2
section
variable {X : Cx} {G : Gx} {T : WX} {a b c e o value : Expr} {w wa wb wo : WE} {pos pos' p apos cpos : Pos} {i k j : Nat} {f C m : Str} {ps : List Str} {wf : WF} {es : List Expr} {kws : List Keyword} {u uk : WA}
variable {p0 : Str}
/-! ### isinstance(x, C) -/
end
/-- C is a class that isinstance asks -/
def IsiX (K : PySem.W.Frag) (mg : Str → Option Value) (C : Str) : Prop := ∃ Ca, mg C = some (.ref Ca) ∧ PySem.W.isClsIn K Ca = true ∧ PySem.W.typeIn K (.ref Ca) = some (.type "type")
/-- instances of C are asked -/
def InsX (K : PySem.W.Frag) (mg : Str → Option Value) (C : Str) : Prop := ∃ Ca, mg C = some (.ref Ca) ∧ Cls K Ca ∧ PySem.W.findIn K (.ref Ca) "__class__" = some (some (.builtin "object.__class__")) ∧
  PySem.W.specialIn K (.builtin "object.__class__") "__get__" = some (some (.builtin "getset_descriptor.__get__")) ∧ PySem.W.takesIn K (.builtin "object.__class__") = some true ∧ PySem.W.mroIn K Ca (.type "object") = some true
/-- an instance of C' is (b) or is no C -/
def SubX (K : PySem.W.Frag) (mg : Str → Option Value) (C' C : Str) (b : Bool) : Prop := ∃ Ca Cb, mg C' = some (.ref Ca) ∧ mg C = some (.ref Cb) ∧ PySem.W.kitOne K (.ref Ca) (.ref Cb) = some b
theorem SubX.self {K : PySem.W.Frag} {mg : Str → Option Value} {C : Str} {Ca : Addr} (h : mg C = some (.ref Ca)) : SubX K mg C C true := ⟨Ca, Ca, h, h, by unfold PySem.W.kitOne; simp⟩
/-- the own class of an instance -/
def D.own (x : D) (μ : Mem) : Option Str := match x with
  | .ins C _ => some C
  | .cell i => (μ[i]?).map Cell.cls
  | _ => none
section
variable {X : Cx} {G : Gx} {T : WX} {a : Expr} {wa : WE} {pos p cpos : Pos} {C : Str}
end
end DL


/-! DL19: len(x), x == y by own methods. -/
namespace DL
open PySem PySem.Spec L2
section
variable {X : Cx} {G : Gx} {T : WX} {a b c e o value : Expr} {w wa wb wo : WE} {pos pos' p apos cpos : Pos} {i k j : Nat} {f C m : Str} {ps : List Str} {wf : WF} {p0 p1 : Str}
end
end DL


/-! DL20: sorted(dict) of any length; d.get(k, z), k in d of a dict that comes. -/
namespace L2
open PySem PySem.Spec PyProof.Rows
section
variable {X : Cx}
/-- sorted(d) of a dict, all keys ints -/
theorem call_sortedDL (hcalm : X.calm = true) : CallR X (.builtin "sorted") (fun xs H Q => ∃ (a : Addr) (kvs : List (Key × V)) (ks : List Int), xs = [.ref a] ∧ Rd H a (.dK kvs) ∧ kvs.map (·.1) = ks.map Sum.inl ∧
    ∀ (ys : List Int) (p : Addr), ys.Perm ks → ys.Pairwise (· ≤ ·) → H p = none → Q (.ref p) (upd H p (.lst (ys.map V.int)))) := by
  intro pins s σ H xs us Q I r q
  obtain ⟨a, kvs, ks, ex, hd, hks, q⟩ := q
  subst ex
  obtain ⟨u, eu, rx⟩ := vals1 r
  subst eu
  cases rx
  obtain ⟨z, lo, vs, rel, dd⟩ := dk_rd I.hok hd
  obtain ⟨ep, hat⟩ := dd.dictAt
  have hkeys : vs.map (·.1) = ks.map Sum.inl := rel.keys.symm.trans hks
  have hl : vs.length = ks.length := by
    have e := congrArg List.length hkeys
    rw [List.length_map, List.length_map] at e
    exact e
  have h16 : vs.length ≤ sizeLine := by rw [← rel.length]; exact z
  refine Calls.call_function_entry PyProof.Rows.kind_sorted PyProof.Rows.plain_sorted PyProof.Rows.entry_sorted (PyProof.Rows.args_sorted1 _) ?_
  unfold Builtin.«sorted»
  refine wpAny_bind (m := checkCount "sorted" 1 1 _) (wpAny_pure ?_)
  refine wpAny_bind (PySem.W.kdu_collect (A := X.A.in1) (PySem.W.kdl_dict (knd := mixKind X.prog X.w) (kvs := vs) (ep := ep) lo) (I.ok.hd hcalm) hat h16 fun h' tk acc hk hacc => ?_)
  have hal : acc.toList.length = ks.length := by rw [Array.length_toList, hacc.1, hl]
  have hS : IntsAre acc.toList ks := ints_each hal fun j v e => by
    obtain ⟨k, x, e1, e2⟩ := hacc.2 j v (by rw [← Array.getElem?_toList]; exact e)
    have e3 : (vs.map (·.1))[j]? = some k := by rw [List.getElem?_map, e1]; rfl
    rw [hkeys, List.getElem?_map] at e3
    cases e4 : ks[j]? with
    | none => rw [e4] at e3; cases e3
    | some y =>
      rw [e4] at e3
      have e5 : Sum.inl y = k := Option.some.inj e3
      subst e5
      rcases keyIs_shape (show keyIs (Sum.inl y) v = true from e2) with ⟨i, t, ek, ev⟩ | ⟨z, t, ek, ev⟩
      · cases ek
        exact ⟨y, t, rfl, ev⟩
      · cases ek
  have I1 : Inv X pins σ H { s with heap := h', toks := tk } := I.kept hk
  have hz : acc.toList.length ≤ sizeLine := by rw [hal, ← hl]; exact h16
  refine wpAny_bind (wpAny_newList ?_ hz)
  have hoL : (h'.push (seqObj "list" acc.toList.toArray 0)).get? h'.objs.size = some (seqObj "list" acc.toList.toArray 0) := Heap.get?_push_size _ rfl
  show wpAny _ _ _ _ _ { s with heap := h'.push (seqObj "list" acc.toList.toArray 0), toks := tk }
  refine wpAny_bind (wpAny_holding (wpAny_call_entry PyProof.Rows.slot_list_sort ⟨_, hoL, rfl⟩ PyProof.Rows.entry_list_sort
    (SrtO.list_sort_ord (s := { s with heap := h'.push (seqObj "list" acc.toList.toArray 0), toks := tk }) SrtO.swo_int hoL hz (fun h2 => SrtO.ints_sortable hS h2) fun out g1 g2 => ⟨_, rfl, ?_⟩) (PyProof.Rows.args_list_sort _)))
  obtain ⟨k1, k2, k3⟩ := SrtO.ints_out hS g1 g2
  obtain ⟨e', he'⟩ := PyProof.Rows.sortedHeap_at (vs := acc.toList) (out := out.toArray) hoL
  have hlen : ((out.map SrtO.iv).map V.int).length ≤ sizeLine := by
    rw [List.length_map, k2.length_eq, ← hl]; exact h16
  refine wpAny_pure ⟨_, rfl, .ref h'.objs.size, upd H h'.objs.size (.lst ((out.map SrtO.iv).map V.int)), I1.laid (t' := tk) (fun b u e => ?_) (Nat.le_refl _)
    (show ObjOk X.prog X.w _ _ _ (.lst ((out.map SrtO.iv).map V.int)) from ⟨hlen, out, e', vals_of_ints k1, he'⟩), rfl, q _ _ k2 k3 (I1.hok.fresh (Nat.le_refl _))⟩
  have hb : b < h'.objs.size := Heap.lt_size e
  rw [PyProof.Rows.sortedHeap_old (Nat.ne_of_lt hb) (by rw [size_push']; exact Nat.lt_succ_of_lt hb)]
  exact Heap.get?_push_of_some _ e
end
end L2
namespace L2
open PySem PySem.Spec PyProof.Rows
end L2
namespace DL
open PySem PySem.Spec L2
/-- sorted(x): a list of ints, or a dict whose keys are ints -/
def fSortedX (ds : List D) (R : S → Prop) : Prop := match ds with
  | [.dic kvs] => ∃ ks : List Int, kvs.map (·.1) = ks.map Sum.inl ∧ ∀ ys : List Int, ys.Perm ks → ys.Pairwise (· ≤ ·) → R (.own (ys.map .int))
  | ds => fSorted ds R
def rSortedX (K : PySem.W.Frag) : List V → Hp → VK → Prop := fun xs H Q => rSortedI K xs H Q ∨ ∃ (a : Addr) (kvs : List (Key × V)) (ks : List Int), xs = [.ref a] ∧ Rd H a (.dK kvs) ∧ kvs.map (·.1) = ks.map Sum.inl ∧
    ∀ (ys : List Int) (p : Addr), ys.Perm ks → ys.Pairwise (· ≤ ·) → H p = none → Q (.ref p) (upd H p (.lst (ys.map V.int)))
theorem cr_sortedX {X : Cx} (hc : X.calm = true) : CallR X (.builtin "sorted") (rSortedX X.K) := cr_sortedI.or (call_sortedDL hc)
theorem dnK_keys {K : PySem.W.Frag} {W : Wd} {H : Hp} : ∀ {ds : List (Key × D)} {vs : List (Key × V)}, DnK K W H ds vs → vs.map (·.1) = ds.map (·.1)
  | _, _, .nil => rfl
  | _, _, .cons _ h => congrArg (_ :: ·) (dnK_keys h)
theorem cd_sortedX {K : PySem.W.Frag} : CaD K (rSortedX K) fSortedX := by
  intro G W ρ σ H ds xs R Q ok h f k
  unfold fSortedX at f
  split at f
  · rename_i kvs
    obtain ⟨ks, e, f⟩ := f
    match h with
    | .cons (.dic h1 h2 h3) .nil =>
      exact .inr ⟨_, _, ks, rfl, h2.rd, (dnK_keys h3).trans e, fun ys p q1 q2 hp => k _ _ _ _ (f ys q1 q2) (.new ok hp) (res_own ok hp hp (.of_int ys))⟩
  · exact .inl (cd_sorted G W ρ σ H _ xs R Q ok h f k)
section
variable {X : Cx} {G : Gx} {T : WX} {a b c e : Expr} {w wa wk wd wz : WE} {pos p apos cpos : Pos}
/-- k in e, e a dict that comes -/
def dIn (d k : D) (N : Bool → Prop) : Prop := match d, k.key with
  | .dic kvs, some κ => N (valD kvs κ).isSome
  | _, _ => False
theorem dIn_of {d k : D} {N : Bool → Prop} (h : dIn d k N) : ∃ kvs κ, d = .dic kvs ∧ k.key = some κ ∧ N (valD kvs κ).isSome := by
  unfold dIn at h
  split at h
  · rename_i kvs κ e; exact ⟨kvs, κ, rfl, e, h⟩
  · exact h.elim
/-- k in x, x a slot with a dict -/
def wDinV (neg : Bool) (i : Nat) (wk : WE) : WE := fun Z ρ R => (∃ s0, ρ.sl[i]? = some (some s0)) ∧ wk Z ρ fun k ρ1 => match ρ1.sl[i]? with
  | some (some s) => dIn s.frz k.frz fun b => R (.d (.bl (b ^^ neg))) ρ1
  | _ => False
theorem dinV_then {neg : Bool} {i : Nat} {σ : L2.St} {H : Hp} {Q : VK} (h : lE X.K G T (wDinV neg i wk) σ H Q) : lE X.K G T wk σ H fun y H1 => tVar i σ H1 fun x H2 => ∃ a o, x = .ref a ∧ DGet H2 a y o ∧ Q (.bl (o.isSome ^^ neg)) H2 := by
  obtain ⟨W, ρ, R, Z, ok, ⟨⟨s0, e0⟩, h⟩, hR, hZ⟩ := h
  obtain ⟨x, _, ex, _⟩ := ok.look e0
  refine lE_then (R := fun k ρ1 => match ρ1.sl[i]? with | some (some s) => dIn s.frz k fun b => R (.d (.bl (b ^^ neg))) ρ1 | _ => False) ok h hZ fun k ρ1 W1 y H1 h1 g1 d1 => ?_
  split at h1
  · rename_i s e1
    obtain ⟨x', e2, r⟩ := g1.ok.val i s e1
    rw [ex] at e2; cases e2
    obtain ⟨kvs, κ, f1, f2, f4⟩ := dIn_of h1
    obtain ⟨q, vs, rfl, hq, da⟩ := dgetS (k := κ) r f1
    refine ⟨_, ex, q, _, rfl, .inl ⟨vs, κ, hq, dn_key d1 f2, rfl⟩, ?_⟩
    have e : ∀ o : Option V, o.isSome = (valD kvs κ).isSome → R (.d (.bl (o.isSome ^^ neg))) ρ1 := fun o e => by rw [e]; exact f4
    rcases da.val (k := κ) with ⟨z1, z2⟩ | ⟨d', v', z1, z2, z3⟩
    · rw [z2]; exact hR _ ρ1 W1 _ H1 (e none (by rw [z1]; rfl)) g1 (.of (.bl _))
    · rw [z2]; exact hR _ ρ1 W1 _ H1 (e (some v') (by rw [z1]; rfl)) g1 (.of (.bl _))
  · exact h1.elim
end
end DL


/-! DL21: four names at once. -/
namespace DL
open PySem PySem.Spec L2
section
variable {X : Cx} {G : Gx} {T : WX} {a b c e : Expr} {wa wb wc we : WE} {pos : Pos}
end
/-! ### None in a list of data -/
end DL


set_option maxHeartbeats 4000000
/-! DL22: sorted of tuples of ints, any lengths, from a list or a tuple. -/
namespace DL
open PySem PySem.Spec L2 PyProof.Rows
/-! ### the order -/
theorem lexLt_irr : ∀ a : List Int, HT.lexLt a a = false
  | [] => rfl
  | x :: l => by rw [HT.lexLt, if_pos rfl]; exact lexLt_irr l
theorem lexLt_tr : ∀ {a b c : List Int}, HT.lexLt a b = true → HT.lexLt b c = true → HT.lexLt a c = true
  | [], _ :: _, _ :: _, _, _ => rfl
  | [], _ :: _, [], _, h => by simp [HT.lexLt] at h
  | [], [], _, h, _ => by simp [HT.lexLt] at h
  | _ :: _, [], _, h, _ => by simp [HT.lexLt] at h
  | _ :: _, _ :: _, [], _, h => by simp [HT.lexLt] at h
  | x :: a, y :: b, z :: c, h1, h2 => by
    rw [HT.lexLt] at h1 h2 ⊢
    by_cases e1 : x = y
    · subst e1
      by_cases e2 : x = z
      · subst e2
        rw [if_pos rfl] at h1 h2 ⊢
        exact lexLt_tr h1 h2
      · rw [if_neg e2] at h2 ⊢; exact h2
    · rw [if_neg e1] at h1
      by_cases e2 : y = z
      · subst e2; rw [if_neg e1]; exact h1
      · rw [if_neg e2] at h2
        have h1 := of_decide_eq_true h1
        have h2 := of_decide_eq_true h2
        rw [if_neg (by omega)]
        exact decide_eq_true (by omega)
theorem lexLt_tot : ∀ {a b : List Int}, a ≠ b → HT.lexLt a b = true ∨ HT.lexLt b a = true
  | [], [], h => absurd rfl h
  | [], _ :: _, _ => .inl rfl
  | _ :: _, [], _ => .inr rfl
  | x :: a, y :: b, h => by
    rw [HT.lexLt, HT.lexLt]
    by_cases e : x = y
    · subst e
      rw [if_pos rfl, if_pos rfl]
      exact lexLt_tot fun z => h (by rw [z])
    · rw [if_neg e, if_neg (fun z => e z.symm)]
      by_cases l : x < y
      · exact .inl (decide_eq_true l)
      · exact .inr (decide_eq_true (by omega))
theorem swo_lexLt {k : Value → List Int} : SrtO.Swo fun v u => HT.lexLt (k v) (k u) := by
  refine ⟨fun x y h => ?_, fun x y z h1 h2 => ?_⟩
  · cases e : HT.lexLt (k y) (k x) with
    | false => rfl
    | true => have := lexLt_tr h e; rw [lexLt_irr] at this; cases this
  · cases e : HT.lexLt (k z) (k x) with
    | false => rfl
    | true =>
      exfalso
      by_cases q : k x = k y
      · rw [q, h2] at e; cases e
      · rcases lexLt_tot q with r | r
        · have := lexLt_tr e r; rw [h2] at this; cases this
        · rw [h1] at r; cases r
/-- insertion by the order -/
def insT (a : List Int) : List (List Int) → List (List Int)
  | [] => [a]
  | b :: l => if HT.lexLt b a = true then b :: insT a l else a :: b :: l
def sortT (ks : List (List Int)) : List (List Int) := ks.foldr insT []
def SrtT (ks : List (List Int)) : Prop := ks.Pairwise fun a b => HT.lexLt b a = false
theorem insT_perm (a : List Int) : ∀ l, (insT a l).Perm (a :: l)
  | [] => .refl _
  | b :: l => by
    unfold insT
    split
    · exact ((insT_perm a l).cons b).trans (.swap ..)
    · exact .refl _
theorem sortT_perm : ∀ ks, (sortT ks).Perm ks
  | [] => .refl _
  | a :: ks => (insT_perm a _).trans ((sortT_perm ks).cons a)
theorem insT_srt {a : List Int} : ∀ {l}, SrtT l → SrtT (insT a l)
  | [], _ => List.pairwise_singleton ..
  | b :: l, h => by
    obtain ⟨h1, h2⟩ := List.pairwise_cons.mp h
    unfold insT
    split
    · rename_i q
      refine List.pairwise_cons.mpr ⟨fun x hx => ?_, insT_srt h2⟩
      rcases List.mem_cons.mp ((insT_perm a l).mem_iff.mp hx) with rfl | hx
      · cases e : HT.lexLt x b with
        | false => rfl
        | true => have := lexLt_tr q e; rw [lexLt_irr] at this; cases this
      · exact h1 x hx
    · rename_i q
      have q : HT.lexLt b a = false := by cases e : HT.lexLt b a with
        | false => rfl
        | true => exact absurd e q
      refine List.pairwise_cons.mpr ⟨fun x hx => ?_, h⟩
      rcases List.mem_cons.mp hx with rfl | hx
      · exact q
      · have h3 := h1 x hx
        cases e : HT.lexLt x a with
        | false => rfl
        | true =>
          exfalso
          by_cases z : a = b
          · rw [z, h3] at e; cases e
          · rcases lexLt_tot z with r | r
            · have := lexLt_tr e r; rw [h3] at this; cases this
            · rw [q] at r; cases r
theorem sortT_srt : ∀ ks, SrtT (sortT ks)
  | [] => .nil
  | a :: ks => insT_srt (sortT_srt ks)
theorem srtT_uniq : ∀ {a b : List (List Int)}, a.Perm b → SrtT a → SrtT b → a = b
  | [], b, p, _, _ => by rw [List.Perm.nil_eq p]
  | x :: a, [], p, _, _ => by have := p.length_eq; simp at this
  | x :: a, y :: b, p, ha, hb => by
    obtain ⟨a1, a2⟩ := List.pairwise_cons.mp ha
    obtain ⟨b1, b2⟩ := List.pairwise_cons.mp hb
    have e : x = y := by
      apply Classical.byContradiction
      intro z
      have hx : x ∈ b := by
        rcases List.mem_cons.mp (p.mem_iff.mp (List.mem_cons_self ..)) with q | q
        · exact absurd q z
        · exact q
      have hy : y ∈ a := by
        rcases List.mem_cons.mp (p.mem_iff.mpr (List.mem_cons_self ..)) with q | q
        · exact absurd q.symm z
        · exact q
      have h1 := a1 y hy
      have h2 := b1 x hx
      rcases lexLt_tot z with r | r
      · rw [h2] at r; cases r
      · rw [h1] at r; cases r
    subst e
    rw [srtT_uniq (List.Perm.cons_inv p) a2 b2]
/-! ### over the machine -/
section
variable {prog : Program} {w : World} {A : Around} {E : Value → Shared → Prop} {s : Shared}
theorem lex_intsA {b : Bool} {xs ys : List Value} {ns ms : List Int} {fin : Bool} {Q : Bool → Shared → Prop} (i : Nat) (hx : IntsAre xs ns) (hy : IntsAre ys ms) (hf : fin = decide (ns.length < ms.length))
    (h : Q (HT.lexLt ns ms) s) : PySem.W.KatLex prog w A b fin Q (xs.zip ys) i s := by
  induction hx generalizing ys ms i with
  | nil =>
    cases hy with
    | nil =>
      refine PySem.W.kat_nil ?_
      rw [hf]; exact h
    | cons q u hy =>
      refine PySem.W.kat_nil ?_
      rw [hf]
      simpa [HT.lexLt] using h
  | @cons p t xs ns hx ih =>
    cases hy with
    | nil =>
      refine PySem.W.kat_nil ?_
      rw [hf]; simpa [HT.lexLt] using h
    | @cons q u ys ms hy =>
      show PySem.W.KatLex prog w A b fin Q ((Value.int p t, Value.int q u) :: xs.zip ys) i s
      refine PySem.W.kat_cons (wpAny_eqBool_int ?_)
      by_cases e : p = q
      · subst e
        rw [beq_self_eq_true]
        rw [HT.lexLt, if_pos rfl] at h
        refine PySem.W.kat_yes ?_
        have hf' : fin = decide (ns.length < ms.length) := by rw [hf]; simp
        first
          | exact ih (i + 1) hy hf' h
          | exact ih _ _ (i + 1) hy hf' h
      · rw [show (p == q) = false from beq_eq_false_iff_ne.mpr e]
        rw [HT.lexLt, if_neg e] at h
        exact PySem.W.kat_no (TS.oneLt_ints _ h)
/-- tuples of ints, none empty -/
def TupsA (h : Heap) (vs : List Value) : Prop := ∀ v, v ∈ vs → ∃ ns, TS.TupInts h v ns ∧ ns ≠ []
theorem firstsA {h : Heap} : ∀ vs : List Value, TupsA h vs → ∃ fs, PySem.W.KatTups h vs fs ∧ fs.length = vs.length ∧ ∀ f, f ∈ fs → ∃ n t, f = Value.int n t
  | [], _ => ⟨[], PySem.W.KatTups.nil, rfl, fun f hf => by simp at hf⟩
  | v :: vs, x => by
    obtain ⟨fs, k, hl, hi⟩ := firstsA vs fun u hu => x u (List.mem_cons_of_mem _ hu)
    obtain ⟨ns, ⟨a, xs, rfl, ⟨o, ho, hc, n, hdt⟩, i⟩, hn⟩ := x v (List.mem_cons_self ..)
    obtain ⟨m, t, r, e⟩ : ∃ m t r, xs.toList = Value.int m t :: r := by
      generalize xs.toList = l at i
      cases i with
      | nil => exact absurd rfl hn
      | cons p u hx => exact ⟨_, _, _, rfl⟩
    have e0 : xs[0]? = some (Value.int m t) := by rw [← Array.getElem?_toList, e]; rfl
    refine ⟨Value.int m t :: fs, PySem.W.KatTups.cons ho hc hdt e0 k, by rw [List.length_cons, List.length_cons, hl], fun f hf => ?_⟩
    rcases List.mem_cons.mp hf with rfl | hf
    · exact ⟨_, _, rfl⟩
    · exact hi f hf
theorem tup_cmpA {vs : List Value} {k : Value → List Int} (hp : ∀ v ∈ vs, TS.TupInts s.heap v (k v)) : SrtO.Cmp prog w A s (tuples' true) (fun p => p.1 ∈ vs) (SrtO.lt2 fun v u => HT.lexLt (k v) (k u)) := by
  intro p q hm hm'
  obtain ⟨a, xs, e, ⟨o, ho, hc, n, hd⟩, i⟩ := hp _ hm
  obtain ⟨a', ys, e', ⟨o', ho', hc', n', hd'⟩, i'⟩ := hp _ hm'
  show wpAny (model prog w) A (keyLt' (tuples' true) p.1 q.1) (fun r s' => s' = s ∧ r = HT.lexLt (k p.1) (k q.1)) (fun _ _ => False) s
  rw [e, e']
  refine PySem.W.kat_lt ho hd ho' hd' (lex_intsA 0 i i' ?_ ⟨rfl, by rw [← e, ← e']⟩)
  have l1 := IntsAre.length i
  have l2 := IntsAre.length i'
  rw [Array.length_toList] at l1 l2
  rw [l1, l2]
theorem tups_sortableA {a : Addr} {vs : List Value} {k : Value → List Int} (h0 : 0 < vs.length) (hp : ∀ v ∈ vs, TS.TupInts s.heap v (k v)) (hne : ∀ v ∈ vs, k v ≠ []) (ha : ∀ o, s.heap.get? a = some o → o.cls ≠ .type "tuple") :
    SrtO.SortableO prog w A s a vs fun v u => HT.lexLt (k v) (k u) := by
  intro h' keep
  have hp' : ∀ v ∈ vs, TS.TupInts h' v (k v) := fun v hm => (hp v hm).keeps fun b o e c => keep b o (fun z => by subst z; exact ha o e c) e
  obtain ⟨fs, h1, h2, h3⟩ := firstsA vs fun v hm => ⟨_, hp' v hm, hne v hm⟩
  refine ⟨tuples' true, fun Q E hq => ?_, tup_cmpA hp'⟩
  refine PySem.W.kat_kind (T := .type "int") h1 (by omega) (fun f hm => ?_) (by rfl) ?_
  · obtain ⟨x, t, rfl⟩ := h3 f hm
    exact PySem.W.Looks.now
  · have e : (Value.type "int" != Value.type "tuple") = true := by first | decide +kernel | rfl | decide
    rw [e]; exact hq
theorem collect_tup {l : Addr} {vs : List Value} {Q : List Value → Shared → Prop} (hl : IsTup s.heap l vs.toArray)
    (h : Q vs { s with heap := (s.heap.push (seqObj "list" #[] 0)).update s.heap.objs.size (Obj.mapSeq (· ++ vs.toArray)) }) (hsz : vs.length ≤ sizeLine := by size_fits) :
    wpAny (model prog w) A (collect (.ref l)) Q E s := by
  obtain ⟨o, ho, hc, n, hd⟩ := id hl
  unfold collect
  refine wpAny_bind (wpAny_runValue (codeAny_builtin entry_proto_collect' ?_))
  show wpAny _ _ (do again (.builtin "list.__iadd__" ⟨[← newList [], .ref l], []⟩)) _ _ s
  refine wpAny_bind (wpAny_newList (wpAny_pure ⟨Code.quiet_builtin _ (by decide +kernel), codeAny_builtin entry_list_iadd' ?_⟩))
  show wpAny _ _ (Builtin.List.listExtendWith (.ref s.heap.objs.size) (.ref l) (.ref s.heap.objs.size)) _ _ { s with heap := s.heap.push (seqObj "list" #[] 0) }
  unfold Builtin.List.listExtendWith
  have ho' : (s.heap.push (seqObj "list" #[] 0)).get? l = some o := Heap.get?_push_of_some _ ho
  refine wpAny_bind (wpAny_typeOf (T := "tuple") ⟨o, ho', hc⟩ ?_)
  have ht : (Value.type "tuple" == Value.type "tuple") = true := by rfl
  rw [if_pos (by rw [ht]; simp)]
  refine wpAny_bind (listItems_at ho' hd ?_)
  refine wpAny_bind (listItems_at (xs := #[]) (n := 0) (Heap.get?_push_size _ rfl) rfl ?_)
  rw [if_neg (by simp)]
  refine wpAny_bind (listUpdate_at (xs := #[]) (n := 0) (Heap.get?_push_size _ rfl) rfl ?_ (Nat.zero_le _) (by show (#[] ++ vs.toArray).size ≤ sizeLine + 1; simp only [Array.size_append, List.size_toArray, List.length_nil]; omega))
  refine wpAny_pure ?_
  show wpAny (model prog w) A (do
      let o ← load s.heap.objs.size
      match o.data with
      | .seq xs _ => pure xs.toList
      | _ => unsupported "internal:collect") Q E { s with heap := (s.heap.push (seqObj "list" #[] 0)).update s.heap.objs.size (Obj.mapSeq (· ++ vs.toArray)) }
  refine wpAny_bind (wpAny_load (get?_update_seq (Heap.get?_push_size _ rfl) _) ?_)
  show wpAny _ _ (pure ((#[] : Array Value) ++ vs.toArray).toList) Q E _
  rw [show ((#[] : Array Value) ++ vs.toArray).toList = vs by simp]
  exact wpAny_pure h
/-- sorted(l) of tuples of ints, once its items are collected -/
theorem sorted_from {l : Addr} {vs : List Value} {k : Value → List Int} {Q : Value → Shared → Prop} (hcol : ∀ (A : Around) (E : Value → Shared → Prop) (R : List Value → Shared → Prop), R vs { s with heap := (s.heap.push (seqObj "list" #[] 0)).update s.heap.objs.size (Obj.mapSeq (· ++ vs.toArray)) } → wpAny (model prog w) A (collect (.ref l)) R E s)
    (hz : vs.length ≤ sizeLine) (hp : ∀ v ∈ vs, TS.TupInts s.heap v (k v)) (hne : ∀ v ∈ vs, k v ≠ [])
    (h : ∀ out : List Value, SrtO.Srtd (fun v u => HT.lexLt (k v) (k u)) out → out.Perm vs → Q (.ref (s.heap.objs.size + 1)) { s with heap := sortedAll s.heap vs out.toArray }) :
    wpAny (model prog w) A (call (.builtin "sorted") [.ref l]) Q E s := by
  refine Calls.call_function_entry kind_sorted plain_sorted entry_sorted (args_sorted1 _) ?_
  unfold Builtin.«sorted»
  refine wpAny_bind (m := checkCount "sorted" 1 1 _) (wpAny_pure ?_)
  refine wpAny_bind (hcol _ _ _ ?_)
  refine wpAny_bind (wpAny_newList ?_ hz)
  have hsz : ((s.heap.push (seqObj "list" #[] 0)).update s.heap.objs.size (Obj.mapSeq (· ++ vs.toArray))).objs.size = s.heap.objs.size + 1 := by
    rw [Heap.size_update, size_push']
  have hoL : (((s.heap.push (seqObj "list" #[] 0)).update s.heap.objs.size (Obj.mapSeq (· ++ vs.toArray))).push (seqObj "list" vs.toArray 0)).get? (s.heap.objs.size + 1) = some (seqObj "list" vs.toArray 0) := by
    rw [← hsz]; exact Heap.get?_push_size _ rfl
  have keep : ∀ b o, s.heap.get? b = some o → (((s.heap.push (seqObj "list" #[] 0)).update s.heap.objs.size (Obj.mapSeq (· ++ vs.toArray))).push (seqObj "list" vs.toArray 0)).get? b = some o := fun b o q => by
    have hlt : b < s.heap.objs.size := Heap.lt_size q
    refine Heap.get?_push_of_some _ ?_
    rw [Heap.get?_update_ne _ _ _ _ (Nat.ne_of_lt hlt)]
    exact Heap.get?_push_of_some _ q
  show wpAny _ _ _ _ _ { s with heap := ((s.heap.push (seqObj "list" #[] 0)).update s.heap.objs.size (Obj.mapSeq (· ++ vs.toArray))).push (seqObj "list" vs.toArray 0) }
  rw [hsz]
  refine wpAny_bind (wpAny_holding (wpAny_call_entry slot_list_sort ⟨_, hoL, rfl⟩ entry_list_sort (SrtO.list_sort_ord swo_lexLt hoL hz (fun h2 => tups_sortableA (k := k) (by omega) (fun v hv => (hp v hv).keeps fun b o e _ => keep b o e) hne fun o e => ?_) fun out g1 g2 => ⟨_, rfl, ?_⟩) (args_list_sort _)))
  · rw [hoL] at e
    cases e
    show Value.type "list" ≠ Value.type "tuple"
    intro e
    injection e with e
    exact absurd e (by decide)
  · exact wpAny_pure ⟨_, rfl, h out g1 g2.perm⟩
end

/-- sorted(xs), xs a list or a tuple of tuples of ints, none empty -/
def rSortedA (K : PySem.W.Frag) : List V → Hp → VK → Prop := fun vs H Q => ∃ (a : Addr) (xs : List V), vs = [V.ref a] ∧ (SqL K H a xs ∨ SqT K H a xs) ∧ (∀ x ∈ xs, ∃ ns, TupI K H x ns ∧ ns ≠ []) ∧
  ∀ (ys : List V) (p : Addr), ys.Perm xs → ys.Pairwise (fun x y => ∀ n m, TupI K H x n → TupI K H y m → HT.lexLt m n = false) → H p = none → Q (.ref p) (upd H p (.lst ys))
theorem cr_sortedA {X : Cx} : CallR X (.builtin "sorted") (rSortedA X.K) := by
  intro pins s σ H vs us Q I r h
  obtain ⟨a, xs, rfl, hs, hx, q⟩ := h
  have main : ∀ its : List Value, Vals xs its → its.length ≤ sizeLine → (∀ (A : Around) (E : Value → Shared → Prop) (R : List Value → Shared → Prop), R its { s with heap := (s.heap.push (seqObj "list" #[] 0)).update s.heap.objs.size (Obj.mapSeq (· ++ its.toArray)) } → wpAny (model X.prog X.w) A (collect (.ref a)) R E s) →
      wpAny (model X.prog X.w) X.A (call (.builtin "sorted") [.ref a]) (EP X pins σ Q) X.xe s := by
    intro its rv hz hcol
    obtain ⟨e1, e2⟩ := bkV_refs rv fun x m => by
      obtain ⟨ns, ⟨t, e, _⟩, _⟩ := hx x m
      exact ⟨t, e⟩
    have hT : ∀ v ∈ its, ∃ ns, TS.TupInts s.heap v ns ∧ ns ≠ [] := fun v hv => by
      obtain ⟨t, rfl⟩ := e2 v hv
      have hm : V.ref t ∈ xs := by
        rw [e1]
        exact List.mem_map.mpr ⟨_, hv, rfl⟩
      obtain ⟨ns, ⟨t', e, ht⟩, hn⟩ := hx _ hm
      cases e
      exact ⟨ns, tupI_raw I ht, hn⟩
    refine sorted_from (k := fun v => TS.intsOf s.heap v) hcol hz (fun v hv => ?_) (fun v hv => ?_) fun out h2 h1 => ?_
    · obtain ⟨ns, h, _⟩ := hT v hv
      rw [h.ints]; exact h
    · obtain ⟨ns, h, hn⟩ := hT v hv
      rw [h.ints]; exact hn
    · obtain ⟨ep, he'⟩ := PyProof.Rows.sortedAll_at s.heap its out.toArray
      have h3 : ∀ u ∈ out, ∃ a, u = Value.ref a := fun u hu => e2 u (h1.mem_iff.mp hu)
      have hp : (out.map bkV).Perm xs := by
        rw [e1]
        exact h1.map bkV
      have hlen : (out.map bkV).length ≤ sizeLine := by
        rw [List.length_map, h1.length_eq]
        exact hz
      refine ⟨.ref _, upd H (s.heap.objs.size + 1) (.lst (out.map bkV)), I.laid (t' := s.toks) (fun _ _ => PyProof.Rows.sortedAll_old) (Nat.le_succ _) ⟨hlen, out, ep, bkV_vals h3, he'⟩, rfl, q _ _ hp ?_ (I.hok.fresh (Nat.le_succ _))⟩
      rw [List.pairwise_map]
      refine List.Pairwise.imp (fun {u v} huv n m hn hm => ?_) h2
      obtain ⟨t, et, ht⟩ := hn
      obtain ⟨t', et', ht'⟩ := hm
      have eu := bkV_ref et
      have ev := bkV_ref et'
      have i1 : TS.intsOf s.heap u = n := by
        rw [eu]
        exact (tupI_raw I ht).ints
      have i2 : TS.intsOf s.heap v = m := by
        rw [ev]
        exact (tupI_raw I ht').ints
      rw [← i1, ← i2]
      exact huv
  rw [Vals.ref1 r]
  rcases hs with hs | hs
  · obtain ⟨its, rv, hl, hz⟩ := I.list hs
    exact main its rv (by rw [← rv.length]; exact hz) fun A E R h => PyProof.Rows.collect_list hl.isList h (by rw [← rv.length]; exact hz)
  · obtain ⟨its, rv, hl, hz⟩ := I.tuple hs
    exact main its rv (by rw [← rv.length]; exact hz) fun A E R h => collect_tup hl h (by rw [← rv.length]; exact hz)

theorem DnA.perm {K : PySem.W.Frag} {W : Wd} {H : Hp} {xs ys : List V} (p : ys.Perm xs) : ∀ {ds : List D}, DnA K W H ds xs → ∃ es, es.Perm ds ∧ DnA K W H es ys := by
  induction p with
  | nil => intro ds h; exact ⟨ds, .refl _, h⟩
  | cons x _ ih =>
    intro ds h
    cases h with
    | cons a b =>
      obtain ⟨es, p, q⟩ := ih b
      exact ⟨_, p.cons _, .cons a q⟩
  | swap x y l =>
    intro ds h
    cases h with
    | cons a b => cases b with
      | cons b c => exact ⟨_, .swap .., .cons b (.cons a c)⟩
  | trans _ _ ih1 ih2 =>
    intro ds h
    obtain ⟨es, p, q⟩ := ih2 h
    obtain ⟨fs, p', q'⟩ := ih1 q
    exact ⟨fs, p'.trans p, q'⟩
/-- a tuple of ints as data -/
abbrev dT (k : List Int) : D := .tup (k.map D.int)
def unI (d : D) : Int := match d with
  | .int i => i
  | _ => 0
def unT (d : D) : List Int := match d with
  | .tup l => l.map unI
  | _ => []
theorem unT_dT (k : List Int) : unT (dT k) = k := by
  show (k.map D.int).map unI = k
  rw [List.map_map]
  conv => rhs; rw [← List.map_id k]
  rfl
theorem unT_map (ks : List (List Int)) : (ks.map dT).map unT = ks := by
  rw [List.map_map]
  conv => rhs; rw [← List.map_id ks]
  exact List.map_congr_left fun k _ => unT_dT k
theorem dn_tupI {K : PySem.W.Frag} {W : Wd} {H : Hp} {ns : List Int} {x : V} (h : Dn K W H (dT ns) x) : TupI K H x ns := by
  cases h with
  | tup h1 h2 => rw [h2.map_int] at h1; exact ⟨_, rfl, h1.sq⟩
theorem dna_srt {K : PySem.W.Frag} {W : Wd} {H : Hp} : ∀ {ks : List (List Int)} {ys : List V}, DnA K W H (ks.map dT) ys → ys.Pairwise (fun x y => ∀ n m, TupI K H x n → TupI K H y m → HT.lexLt m n = false) → SrtT ks
  | [], _, _, _ => .nil
  | k :: ks, _, .cons h1 h2, hp => by
    obtain ⟨a, b⟩ := List.pairwise_cons.mp hp
    refine List.pairwise_cons.mpr ⟨fun m hm => ?_, dna_srt h2 b⟩
    have : ∃ y ∈ _, TupI K H y m := dna_mem h2 hm
    obtain ⟨y, hy, ht⟩ := this
    exact a y hy k m (dn_tupI h1) ht
where
  dna_mem : ∀ {ks : List (List Int)} {ys : List V} {m : List Int}, DnA K W H (ks.map dT) ys → m ∈ ks → ∃ y ∈ ys, TupI K H y m
  | [], _, _, _, h => by simp at h
  | k :: ks, _ :: ys, m, .cons h1 h2, h => by
    rcases List.mem_cons.mp h with rfl | h
    · exact ⟨_, List.mem_cons_self .., dn_tupI h1⟩
    · obtain ⟨y, hy, ht⟩ := dna_mem h2 h
      exact ⟨y, List.mem_cons_of_mem _ hy, ht⟩
theorem dna_all {K : PySem.W.Frag} {W : Wd} {H : Hp} : ∀ {ks : List (List Int)} {ys : List V}, DnA K W H (ks.map dT) ys → (∀ k ∈ ks, k ≠ []) → ∀ x ∈ ys, ∃ ns, TupI K H x ns ∧ ns ≠ []
  | [], _, .nil, _, x, h => by simp at h
  | k :: ks, _ :: ys, .cons h1 h2, hn, x, h => by
    rcases List.mem_cons.mp h with rfl | h
    · exact ⟨k, dn_tupI h1, hn k (List.mem_cons_self ..)⟩
    · exact dna_all h2 (fun k hk => hn k (List.mem_cons_of_mem _ hk)) x h
/-- sorted(x): a list or a tuple of tuples of ints -/
def fSortedA (ds : List D) (R : S → Prop) : Prop := ∃ ks : List (List Int), (ds = [.lst (ks.map dT)] ∨ ds = [.tup (ks.map dT)]) ∧ (∀ k ∈ ks, k ≠ []) ∧ R (.own ((sortT ks).map dT))
theorem cd_sortedA {K : PySem.W.Frag} : CaD K (rSortedA K) fSortedA := by
  intro G W ρ σ H ds xs R Q ok h ⟨ks, e, hn, f⟩ k
  have fin : ∀ {a : Addr} {vs : List V}, xs = [.ref a] → (SqL K H a vs ∨ SqT K H a vs) → DnA K W H (ks.map dT) vs → rSortedA K xs H Q := fun {a vs} ex hs hd => by
    refine ⟨a, vs, ex, hs, dna_all hd hn, fun ys p hp hs hf => ?_⟩
    obtain ⟨es, q1, q2⟩ := hd.perm hp
    obtain ⟨ks', ek⟩ : ∃ ks' : List (List Int), es = ks'.map dT := by
      refine ⟨es.map unT, ?_⟩
      rw [List.map_map]
      conv => lhs; rw [← List.map_id es]
      refine List.map_congr_left fun d hd => ?_
      obtain ⟨k, hk, rfl⟩ := List.mem_map.mp (q1.mem_iff.mp hd)
      show dT k = dT (unT (dT k))
      rw [unT_dT]
    subst ek
    have hk : ks' = sortT ks := by
      refine srtT_uniq (List.Perm.trans ?_ (sortT_perm ks).symm) (dna_srt q2 hs) (sortT_srt ks)
      have := q1.map unT
      rwa [unT_map, unT_map] at this
    rw [hk] at q2
    exact k _ _ _ _ f (.new ok hf) (res_own ok hf hf q2)
  rcases e with rfl | rfl
  · match h with
    | .cons (.lst h0 h1 h2) .nil => exact fin rfl (.inl (SqL.of h1)) h2
  · match h with
    | .cons (.tup h1 h2) .nil => exact fin rfl (.inr h1.sq) h2
end DL


/-! DL23: list(range(..)), tuple(range(..)); len and list of dicts. -/
namespace DL
open PySem PySem.Spec L2
section
variable {K : PySem.W.Frag} {W : Wd} {H : Hp}
end
section
variable {X : Cx} {G : Gx} {T : WX} {a b : Expr} {wa wb : WE} {p p1 pos pos1 : Pos}
end
/-! ### len(d), list(d), d a dict -/
def rLenD : List V → Hp → VK → Prop := fun xs H Q => ∃ a kvs, xs = [V.ref a] ∧ Rd H a (.dK kvs) ∧ Q (.int kvs.length) H
theorem cr_lenD {X : Cx} : CallR X (.builtin "len") rLenD := by
  intro pins s σ H xs us Q I r h
  obtain ⟨a, kvs, rfl, ha, q⟩ := h
  obtain ⟨u, rfl, ru⟩ := vals1 r
  cases ru
  exact d_len I ha fun t s' I' => ⟨.int kvs.length, H, I', ⟨t, rfl⟩, q⟩
def fLenD (ds : List D) (R : S → Prop) : Prop := match ds with
  | [.dic kvs] => R (.d (.int kvs.length))
  | _ => False
theorem cd_lenD {K : PySem.W.Frag} : CaD K rLenD fLenD := by
  intro G W ρ σ H ds xs R Q ok h f k
  unfold fLenD at f
  split at f
  · match h with
    | .cons (.dic h1 h2 h3) .nil =>
      refine ⟨_, _, rfl, h2.rd, ?_⟩
      rw [← h3.length]
      exact k _ _ _ _ f (.refl ok) (.of (.int _))
  · exact f.elim
def rLstD : List V → Hp → VK → Prop := fun xs H Q => ∃ (a : Addr) (kvs : List (Key × V)), xs = [.ref a] ∧ Rd H a (.dK kvs) ∧ ∀ p, H p = none → Q (.ref p) (upd H p (.lst (kvs.map fun kv => kV kv.1)))
theorem cr_listD {X : Cx} (hc : X.calm = true) : CallR X (.type "list") rLstD := call_listD hc
def fListD (ds : List D) (R : S → Prop) : Prop := match ds with
  | [.dic kvs] => R (.own (kvs.map fun kv => keyD kv.1))
  | _ => False
theorem dna_keys {K : PySem.W.Frag} {W : Wd} {H : Hp} : ∀ {ds : List (Key × D)} {vs : List (Key × V)}, DnK K W H ds vs → DnA K W H (ds.map fun kv => keyD kv.1) (vs.map fun kv => kV kv.1)
  | _, _, .nil => .nil
  | _, _, .cons h t => .cons (dn_keyD _) (dna_keys t)
theorem cd_listD {K : PySem.W.Frag} : CaD K rLstD fListD := by
  intro G W ρ σ H ds xs R Q ok h f k
  unfold fListD at f
  split at f
  · match h with
    | .cons (.dic h1 h2 h3) .nil => exact ⟨_, _, rfl, h2.rd, fun p hp => k _ _ _ _ f (.new ok hp) (res_own ok hp hp (dna_keys h3))⟩
  · exact f.elim
end DL


/-! DL24: dict comprehensions; a[k] of a dict that comes. -/
namespace DL
open PySem PySem.Spec L2
def wDcL (f : TgF) (t : WT) (ek ev : WE) (s : Sl) (R : List (Key × D) → Mem → Prop) : List D → List (Key × D) → Mem → Prop
  | [], acc, μ => R acc μ
  | d :: ds, acc, μ => f d fun l => t noZ (storesR ⟨s, μ⟩ l) fun b ρ3 => ρ3.sl = (storesR ⟨s, μ⟩ l).sl ∧
    if b = true then ek noZ ρ3 fun y ρ4 => ρ4.sl = ρ3.sl ∧ ev noZ ρ4 fun z ρ5 => ρ5.sl = ρ4.sl ∧ acc.length < sizeLine ∧ ∃ κ, y.frz.key = some κ ∧ wDcL f t ek ev s R ds (putD acc κ z.frz) ρ5.mm
    else wDcL f t ek ev s R ds acc ρ3.mm
def wDc (wi : WI) (f : TgF) (t : WT) (ek ev : WE) (vs : List Nat) : WE := fun Z ρ R => wi Z ρ fun ds ρ1 => NoOwn ρ1 vs ∧ wDcL f t ek ev (wipeR ρ1 vs).sl (fun acc μ => R (.odic acc) ⟨ρ1.sl, μ⟩) ds [] ρ1.mm
section
variable {X : Cx} {G : Gx} {T : WX} {t : WT} {pos p apos cpos : Pos} {a b : Expr} {wa wk : WE}
theorem lE_dc {K : PySem.W.Frag} {X' : Cx} (hK : X'.K = K) {wi : WI} {f : TgF} {g : TG} {tg : Expr} {te tv : WE} {vs : List Nat} (hg : TgtL X' tg f g) (hin : TgIn f vs) {σ : L2.St} {H : Hp} {Q : VK} (h : lE K G T (wDc wi f t te tv vs) σ H Q) :
    tDc (lI K G T wi) g (lT K G noT t) (lE K G noT te) (lE K G noT tv) vs σ H Q := by
  subst hK
  obtain ⟨W, ρ, R, Z, ok, h, hR, hZ⟩ := h
  refine ⟨W, ρ, _, Z, ok, h, fun ds ρ1 W1 H1 J ⟨hno, h1⟩ g1 it D hD => ?_, hZ⟩
  have al1 := g1.ok.al
  have hD0 : G.H D = none := g1.ok.upG hD
  have nOD : ¬ Ow ρ1 σ D := fun q => by
    obtain ⟨o, e⟩ := g1.ok.here q
    rw [hD] at e; cases e
  have start := Go.new (o := .dK []) g1.ok hD
  refine ⟨fun i m H' => ∃ W' μ acc xs, Ok X'.K G W' ⟨ρ1.sl, μ⟩ σ H' ∧ H' D = some (.dK xs) ∧ DnK X'.K W' H' acc xs ∧ ¬ W'.F D ∧ (¬ W'.J D ∧ ¬ D ∈ W'.C) ∧ wDcL f t te tv (wipeR ρ1 vs).sl (fun acc μ => R (.odic acc) ⟨ρ1.sl, μ⟩) (ds.drop i) acc μ ∧ Step (Ow ρ1 σ) W1 H1 W' H' ∧ m = ds.length - i ∧ i ≤ ds.length, ?_, ?_⟩
  · refine ⟨ds.length, W1, ρ1.mm, [], [], start.ok, upd_same, .nil, fun q => ?_, ⟨fun q => ?_, fun q => ?_⟩, h1, start.stp, rfl, Nat.zero_le _⟩
    · obtain ⟨o, e⟩ := al1.f D q; rw [hD] at e; cases e
    · obtain ⟨u, e⟩ := (al1.j D q).some; rw [hD] at e; cases e
    · obtain ⟨_, _, o, e⟩ := al1.c D q; rw [hD] at e; cases e
  rintro i m H' ⟨W', μ, acc, xs, ok', eD, da, nF, ⟨nJ, nC⟩, h', st, rfl, hle⟩
  obtain ⟨q1, q2⟩ := it i W' H' st.le ok'.al
  by_cases hi : i < ds.length
  · obtain ⟨d, hd⟩ : ∃ d, ds[i]? = some d := ⟨ds[i], List.getElem?_eq_getElem hi⟩
    obtain ⟨go, yl⟩ := q2 d hd
    have ed : ds[i] = d := by rw [List.getElem?_eq_getElem hi] at hd; exact Option.some.inj hd
    rw [List.drop_eq_getElem_cons hi, ed] at h'
    refine .inr ⟨go, fun H2 => ∃ W' μ acc xs, Ok X'.K G W' ⟨ρ1.sl, μ⟩ σ H2 ∧ H2 D = some (.dK xs) ∧ DnK X'.K W' H2 acc xs ∧ ¬ W'.F D ∧ (¬ W'.J D ∧ ¬ D ∈ W'.C) ∧ wDcL f t te tv (wipeR ρ1 vs).sl (fun acc μ => R (.odic acc) ⟨ρ1.sl, μ⟩) (ds.drop (i + 1)) acc μ ∧ Step (Ow ρ1 σ) W1 H1 W' H2, ?_, fun x H2 hy => ?_⟩
    · rintro H2 ⟨W2, μ2, acc2, xs2, o, e, da2, f1, f2, q, s2⟩
      exact ⟨ds.length - (i + 1), by omega, W2, μ2, acc2, xs2, o, e, da2, f1, f2, q, s2, rfl, by omega⟩
    · obtain ⟨W2, st2, al2, ⟨ec, kc⟩, hd2⟩ := yl x H2 hy
      have g2 := ok'.grow0 st2 al2 ec kc
      have okb := g2.ok.wipe vs
      have ew : (⟨(wipeR ρ1 vs).sl, μ⟩ : Rho) = wipeR ⟨ρ1.sl, μ⟩ vs := wipe_mem
      refine hg.2 W2 H2 x d (wipe σ vs) _ _ hd2 (hin d _ _ h' fun l hl hv => (⟨hl, hv⟩ : _ ∧ ∀ p ∈ l, p.1 ∈ vs)) fun l xs' ⟨hl, hv⟩ dl => ?_
      have ok3 := okb.stores dl
      rw [ew] at hl
      have owS : ∀ a, Ow (storesR (wipeR ⟨ρ1.sl, μ⟩ vs) l) (stores (wipe σ vs) (l.map (·.1)) xs') a → Ow ρ1 σ a := fun a q => ow_wipe (ρ := ⟨ρ1.sl, μ⟩) (ow_stores dl q)
      have nD2 : W2.F D → False := fun q => (st2.nF D q).elim nF fun z => z.elim (fun e => by rw [eD] at e; cases e) id
      have nJ2 : W2.J D → False := fun q => (st2.nJ D q).elim nJ fun e => by rw [eD] at e; cases e
      have nC2 : D ∈ W2.C → False := fun q => nC (by rw [← ec]; exact q)
      have eD2 : H2 D = some (.dK xs) := st2.st D _ eD nJ nC fun q => q
      have sA : Step (Ow ρ1 σ) W1 H1 W2 H2 := st.trans st2 fun _ q => q.elim
      refine ⟨by rw [wipe_stores hv, wipe_wipe fun _ h => h], ?_⟩
      refine ⟨W2, _, _, noZ, ok3, hl, fun b ρ3 W3 H3 ⟨e3, hb⟩ g3 => ?_, fun _ _ _ _ _ _ q => q.elim⟩
      have owS3 : ∀ a, Ow ρ3 (stores (wipe σ vs) (l.map (·.1)) xs') a → Ow ρ1 σ a := fun a q => owS a (g3.sub a q)
      have nD3 : W3.F D → False := fun q => (g3.stp.nF D q).elim nD2 fun z => z.elim (fun e => by rw [eD2] at e; cases e) fun q => nOD (owS D q)
      have nJ3 : W3.J D → False := fun q => (g3.stp.nJ D q).elim nJ2 fun e => by rw [eD2] at e; cases e
      have nC3 : D ∈ W3.C → False := fun q => (g3.stp.nC D q).elim nC2 fun e => by rw [eD2] at e; cases e
      have eD3 : H3 D = some (.dK xs) := g3.stp.st D _ eD2 nJ2 nC2 fun q => nOD (owS D q)
      have sB : Step (Ow ρ1 σ) W1 H1 W3 H3 := sA.trans g3.stp fun a q => .inl (owS a q)
      cases b with
      | false =>
        simp only [Bool.false_eq_true, if_false] at hb ⊢
        exact ⟨W3, ρ3.mm, acc, xs, ok'.unblk (ρ := ⟨ρ1.sl, μ⟩) hno hv e3 g3.ok (st2.le.trans g3.stp.le), eD3, da.le (st2.le.trans g3.stp.le), nD3, ⟨nJ3, nC3⟩, hb, sB⟩
      | true =>
        simp only [if_true] at hb ⊢
        refine lE_then (T := noT) (R := fun y ρ4 => ρ4.sl = ρ3.sl ∧ tv noZ ρ4 fun z ρ5 => ρ5.sl = ρ4.sl ∧ acc.length < sizeLine ∧ ∃ κ, y.key = some κ ∧ wDcL f t te tv (wipeR ρ1 vs).sl (fun acc μ => R (.odic acc) ⟨ρ1.sl, μ⟩) (ds.drop (i + 1)) (putD acc κ z.frz) ρ5.mm) g3.ok hb (fun _ _ _ _ _ _ q => q.elim) fun y ρ4 W4 yv H4 ⟨e4, h4⟩ g4 d4 => ?_
        have owS4 : ∀ a, Ow ρ4 (stores (wipe σ vs) (l.map (·.1)) xs') a → Ow ρ1 σ a := fun a q => owS3 a (g4.sub a q)
        have nD4 : W4.F D → False := fun q => (g4.stp.nF D q).elim nD3 fun z => z.elim (fun e => by rw [eD3] at e; cases e) fun q => nOD (owS3 D q)
        have nJ4 : W4.J D → False := fun q => (g4.stp.nJ D q).elim nJ3 fun e => by rw [eD3] at e; cases e
        have nC4 : D ∈ W4.C → False := fun q => (g4.stp.nC D q).elim nC3 fun e => by rw [eD3] at e; cases e
        have eD4 : H4 D = some (.dK xs) := g4.stp.st D _ eD3 nJ3 nC3 fun q => nOD (owS3 D q)
        have sC : Step (Ow ρ1 σ) W1 H1 W4 H4 := sB.trans g4.stp fun a q => .inl (owS3 a q)
        refine lE_then (T := noT) (R := fun z ρ5 => ρ5.sl = ρ4.sl ∧ acc.length < sizeLine ∧ ∃ κ, y.key = some κ ∧ wDcL f t te tv (wipeR ρ1 vs).sl (fun acc μ => R (.odic acc) ⟨ρ1.sl, μ⟩) (ds.drop (i + 1)) (putD acc κ z) ρ5.mm) g4.ok h4 (fun _ _ _ _ _ _ q => q.elim) fun z ρ5 W5 zv H5 ⟨e5, hlen, κ, ek, h5⟩ g5 d5 => ?_
        have nD5 : W5.F D → False := fun q => (g5.stp.nF D q).elim nD4 fun z => z.elim (fun e => by rw [eD4] at e; cases e) fun q => nOD (owS4 D q)
        have nJ5 : W5.J D → False := fun q => (g5.stp.nJ D q).elim nJ4 fun e => by rw [eD4] at e; cases e
        have nC5 : D ∈ W5.C → False := fun q => (g5.stp.nC D q).elim nC4 fun e => by rw [eD4] at e; cases e
        have eD5 : H5 D = some (.dK xs) := g5.stp.st D _ eD4 nJ4 nC4 fun q => nOD (owS4 D q)
        have l5 : Le W' H' W5 H5 := ((st2.le.trans g3.stp.le).trans g4.stp.le).trans g5.stp.le
        have lw : Le W5 H5 W5 (upd H5 D (.dK (putK xs κ zv))) := .same fun a h => upd_ne fun e => nD5 (by rw [← e]; exact h)
        refine ⟨xs, κ, dn_key d4 ek, eD5, by rw [← da.length]; exact hlen, W5, ρ5.mm, putD acc κ z, putK xs κ zv, (ok'.unblk (ρ := ⟨ρ1.sl, μ⟩) hno hv ((e5.trans e4).trans e3) g5.ok l5).write nD5 nJ5 nC5 hD0 nOD, upd_same, (DnK.put d5 (da.le l5)).le lw, nD5, ⟨nJ5, nC5⟩, h5, ?_⟩
        exact (sC.trans g5.stp fun a q => .inl (owS4 a q)).write al1 hD
  · have e : i = ds.length := by omega
    subst e
    rw [List.drop_length] at h'
    refine .inl ⟨q1 (Nat.le_refl _), hR (.odic acc) ⟨ρ1.sl, μ⟩ W' (.ref D) H' h' (g1.trans ⟨ok', st, fun _ q => q⟩) ⟨⟨D, xs, rfl, eD, da⟩, fun _ p e => ?_⟩⟩
    cases e
    exact ⟨nF, nJ, nC, g1.stp.up D hD⟩
theorem de_dc {kx vx tg iter : Expr} {ifs : List Expr} {scope : Scope} {own : List (Str × Nat)} {wi : WI} {f : TgF} {g : TG} {te tv : WE} (hN : X.N.Nodup) (hi : DI X G T tg iter wi) (ok : BlkOk X.N X.env.scope scope own)
    (hg : ∀ (s : Shared) (H : Hp) (C : Addr) (cl : List (Str × Addr)) (fp : List Addr), TgtL (X.blk s H scope (compEnvC scope cl C X.env) fp) tg f g) (hin : TgIn f (own.map (·.2)))
    (ht : ∀ (s : Shared) (H : Hp) (C : Addr) (cl : List (Str × Addr)) (fp : List Addr), DTs (X.blk s H scope (compEnvC scope cl C X.env) fp) G noT ifs t)
    (hk : ∀ (s : Shared) (H : Hp) (C : Addr) (cl : List (Str × Addr)) (fp : List Addr), DE (X.blk s H scope (compEnvC scope cl C X.env) fp) G noT kx te)
    (he : ∀ (s : Shared) (H : Hp) (C : Addr) (cl : List (Str × Addr)) (fp : List Addr), DE (X.blk s H scope (compEnvC scope cl C X.env) fp) G noT vx tv) (hc : X.calm = true := by rfl) (hs : ∀ x, foldedSetIterable iter X.env x = pure x := by intro _; rfl) :
    DE X G T (.DictComp kx vx [⟨tg, iter, ifs, 0⟩] scope pos) (wDc wi f t te tv (own.map (·.2))) :=
  ⟨fun pins s σ H Q I h => (pe_dc (tt := lT X.K G noT t) (tk := lE X.K G noT te) (tv := lE X.K G noT tv) hc hN hi ok (fun s H C cl fp => (hg s H C cl fp).1) ht hk he hs).run pins s σ H Q I (lE_dc (X' := X.blk s H scope (compEnvC scope [] 0 X.env) []) rfl (hg s H 0 [] []) hin h)⟩
/-- a[k], a a dict that comes -/
def wDgetX (wa wk : WE) : WE := fun Z ρ R => wa Z ρ fun d ρ1 => wk Z ρ1 fun k ρ2 => dGet d.frz k.frz fun v => R (.d v) ρ2
theorem de_dgetX (hu : X.A.units + 1 < cLine) (ha : DE X G T a wa) (hb : DE X G T b wk) (hs : NoSl b := by intro _ _; rfl) : DE X G T (.Subscript a b pos) (wDgetX wa wk) :=
  pe_weak (pe_dget hu ha hb hs) fun σ H Q ⟨W, ρ, R, Z, ok, h, hR, hZ⟩ => by
    refine lE_then (R := fun d ρ1 => wk Z ρ1 fun k ρ2 => dGet d k.frz fun v => R (.d v) ρ2) ok h hZ fun d ρ1 W1 x1 H1 h1 g1 d1 => ?_
    refine lE_then (R := fun k ρ2 => dGet d k fun v => R (.d v) ρ2) g1.ok h1 (hZ.go g1) fun k ρ2 W2 x2 H2 h2 g2 d2 => ?_
    obtain ⟨kvs, κ, v, f1, f2, f3, f4⟩ := dget_of h2
    have r : Rs X.K W2 H2 (.d d) x1 := d1.le g2.stp.le
    obtain ⟨q, vs, rfl, hq, da⟩ := dgetS (k := κ) r f1
    rcases da.val (k := κ) with ⟨z, _⟩ | ⟨d', v', z1, z2, z3⟩
    · rw [f3] at z; cases z
    · rw [f3] at z1; cases z1
      exact ⟨q, v', rfl, .inl ⟨vs, κ, hq, dn_key d2 f2, z2.symm⟩, hR _ ρ2 W2 v' H2 f4 (g1.trans g2) (.of z3)⟩
end
end DL


/-! DL25: xs[::-1] of a tuple. -/
namespace DL
open PySem PySem.Spec L2 PyProof.Rows
section
variable {prog : Program} {w : World} {A : Around} {E : Value → Shared → Prop} {s : Shared}
theorem adjust_rev (n : Nat) : Builtin.Slice.sliceAdjust none none (-1) (n : Int) = ((n : Int) - 1, -1) := rfl
theorem places_rev (n : Nat) : Builtin.Slice.slicePlaces ((n : Int) - 1) (-1) (-1) = n := by
  unfold Builtin.Slice.slicePlaces
  have h1 : ¬ ((-1 : Int) > 0) := by omega
  simp only [h1, if_false]
  by_cases h : (n : Int) - 1 > -1
  · rw [if_pos h, show (- -1 : Int) = 1 by decide, Int.ediv_one]; omega
  · rw [if_neg h]; omega
theorem sliceApplied_rev {sl : Addr} {vl vu vs : Value} {n : Nat} {Q : Int × Int × Nat → Shared → Prop} (hs : s.heap.IsSliceOf sl vl vu vs) (pl : IsPart vl none) (pu : IsPart vu none) (ps : IsPart vs (some (-1)))
    (h : Q ((n : Int) - 1, -1, n) s) : wpAny (model prog w) A (Builtin.Slice.sliceApplied (.ref sl) (pure (n : Int))) Q E s := by
  obtain ⟨os, hos, hcs, hds⟩ := id hs
  unfold Builtin.Slice.sliceApplied Builtin.Slice.sliceFields
  refine wpAny_bind (wpAny_bind (wpAny_field hos hds (x := vl) rfl (wpAny_bind (wpAny_field hos hds (x := vu) rfl (wpAny_bind (wpAny_field hos hds (x := vs) rfl (wpAny_pure ?_)))))))
  refine wpAny_bind (HT.slicePart_ ps ?_)
  show wpAny _ _ (if ((-1 : Int) == 0) = true then _ else _) _ _ s
  rw [if_neg (by decide)]
  refine wpAny_bind (HT.slicePart_ pl (wpAny_bind (HT.slicePart_ pu (wpAny_bind (wpAny_pure ?_)))))
  show wpAny _ _ (match Builtin.Slice.sliceAdjust none none (-1) (n : Int) with | (lo, hi) => pure (lo, (-1 : Int), Builtin.Slice.slicePlaces lo hi (-1))) _ _ s
  rw [adjust_rev n]
  show wpAny _ _ (pure ((n : Int) - 1, (-1 : Int), Builtin.Slice.slicePlaces ((n : Int) - 1) (-1) (-1))) _ _ s
  rw [places_rev]
  exact wpAny_pure h
theorem fm_congr {α β : Type} {f g : α → Option β} : ∀ {l : List α}, (∀ a ∈ l, f a = g a) → l.filterMap f = l.filterMap g
  | [], _ => rfl
  | a :: l, h => by
    rw [List.filterMap_cons, List.filterMap_cons, h a (List.mem_cons_self ..), fm_congr fun b hb => h b (List.mem_cons_of_mem _ hb)]
theorem pick_rev (xs : Array Value) : ((List.range xs.size).filterMap fun (m : Nat) => xs[((xs.size : Int) - 1 + (m : Int) * (-1)).toNat]?).toArray = xs.toList.reverse.toArray := by
  have e : ((List.range xs.size).filterMap fun (m : Nat) => xs[((xs.size : Int) - 1 + (m : Int) * (-1)).toNat]?) = ((List.range xs.size).map fun k => xs.size - 1 - k).filterMap (xs[·]?) := by
    rw [List.filterMap_map]
    apply fm_congr
    intro m hm
    have := List.mem_range.mp hm
    show xs[((xs.size : Int) - 1 + (m : Int) * (-1)).toNat]? = xs[xs.size - 1 - m]?
    rw [show ((xs.size : Int) - 1 + (m : Int) * (-1)).toNat = xs.size - 1 - m by omega]
  rw [e, PySem.W.krv_range, List.filterMap_reverse, PySem.W.krv_all]
theorem getItem_tuple_rev {t sl : Addr} {items : Array Value} {vl vu vs : Value} {Q : Value → Shared → Prop} (ht : IsTup s.heap t items) (hs : s.heap.IsSliceOf sl vl vu vs) (pl : IsPart vl none) (pu : IsPart vu none) (ps : IsPart vs (some (-1)))
    (h : Q (.ref s.heap.objs.size) { s with heap := s.heap.push { cls := .type "tuple", data := .seq items.toList.reverse.toArray } })
    (hsz : items.size ≤ sizeLine) : wpAny (model prog w) A (getItem (.ref t) (.ref sl)) Q E s := by
  have htake : sizeOk (.seq items.toList.reverse.toArray) := by
    show items.toList.reverse.toArray.size ≤ sizeLine
    rw [List.size_toArray, List.length_reverse, Array.length_toList]
    exact hsz
  obtain ⟨os, hos, hcs, hds⟩ := id hs
  have hTs : s.TypeIs (.ref sl) "slice" := ⟨os, hos, hcs⟩
  unfold getItem
  try with_reducible refine wpAny_holding ?_
  first | refine wpAny_bind (wpAny_pure ?_) | skip
  refine wpAny_bind (wpAny_sequenceKey ht.typeIs (by decide) ?_)
  refine wpAny_bind (wpAny_callSpecial?_slot (name := Str.ofString "__getitem__") ht.typeIs PyProof.Rows.slot_tuple_getitem
    (wpAny_call_entry PyProof.Rows.slot_tuple_getitem ht.typeIs entry_tuple_getitem ?_ (args_tuple_getitem _ _)))
  show wpAny _ _ (Builtin.Tuple.tupleItemsOf (.ref t) >>= _) _ _ s
  refine wpAny_bind (tupleItemsOf_ ht ?_)
  refine wpAny_bind (wpAny_typeOf hTs ?_)
  rw [if_pos (by decide)]
  refine wpAny_bind (sliceApplied_rev hs pl pu ps ?_)
  show wpAny _ _ (if (((items.size : Int) - 1) == 0 && (-1 : Int) == 1 && items.size == items.size) = true then _ else _) _ _ s
  rw [if_neg (by simp), pick_rev]
  first
    | exact wpAny_bind (m := Builtin.Tuple.tupleExact _) (wpAny_newObj_type (wpAny_pure ⟨_, rfl, wpAny_pure h⟩) htake)
    | exact wpAny_bind (m := Builtin.Tuple.tupleExact _) (wpAny_newObj_type (wpAny_bind (wpAny_pure (wpAny_pure ⟨_, rfl, wpAny_pure h⟩))) htake)
    | exact wpAny_bind (wpAny_bind (m := Builtin.Tuple.tupleExact _) (wpAny_newObj_type (wpAny_pure (wpAny_pure ⟨_, rfl, wpAny_pure h⟩)) htake))
    | exact wpAny_bind (wpAny_bind (m := Builtin.Tuple.tupleExact _) (wpAny_newObj_type (wpAny_pure ⟨_, rfl, wpAny_pure h⟩) htake))
end
section
variable {X : Cx} {G : Gx} {T : WX} {e : Expr} {w : WE} {p2 pos : Pos}
def tRevT (K : PySem.W.Frag) (te : TE) : TE := fun σ H Q => te σ H fun x H1 => ∃ a xs, x = .ref a ∧ SqT K H1 a xs ∧ ∀ p, H1 p = none → Q (.ref p) (upd H1 p (.tup xs.reverse))
theorem pe_revT {e : Expr} {te : TE} {k : Nat} {p1 p2 p3 pos : Pos} (he : PE X e te) : PE X (.Subscript e (.Slice none none (some (.UnaryOp .USub (.Constant (.int 1) k p1) p2)) p3) pos) (tRevT X.K te) := by
  refine ⟨fun pins s σ H Q I h => ?_⟩
  refine Subscript_ (thn (he.run pins s σ H _ I h) fun v s1 ⟨x, H1, I1, r1, q1⟩ => ?_)
  obtain ⟨a, xs, ex, hx, q⟩ := q1
  subst ex
  cases r1
  have hst : PO X (some (.UnaryOp .USub (.Constant (.int 1) k p1) p2)) (tPart (tUn (rU fun i => .int (-i)) (tC (.int 1)))) := po_some (pe_un un_neg pe_int)
  refine wpAny_Slice (thn (po_none.run pins s1 σ H1 (fun o H2 => o = none ∧ H2 = H1) I1 ⟨rfl, rfl⟩) fun vl s2 ⟨l, H2, I2, pl, el, e2⟩ => ?_)
  subst el e2
  refine thn (po_none.run pins s2 σ H2 (fun o H3 => o = none ∧ H3 = H2) I2 ⟨rfl, rfl⟩) fun vu s3 ⟨u, H3, I3, pu, eu, e3⟩ => ?_
  subst eu e3
  refine thn (hst.run pins s3 σ H3 (fun o H4 => o = some (-1) ∧ H4 = H3) I3 ⟨1, rfl, -1, rfl, rfl, rfl⟩) fun vs s4 ⟨o, H4, I4, ps, eo, e4⟩ => ?_
  subst eo e4
  have I5 : Inv X pins σ H4 { s4 with heap := s4.heap.push { cls := .type "slice", data := .fields #[vl, vu, vs] } } := I4.kept (t' := s4.toks) fun b ob q => Heap.get?_push_of_some _ q
  obtain ⟨its, r, ht, hz⟩ := I5.tuple hx
  have hlen := r.length
  show wpAny (model X.prog X.w) X.A (subscriptTail e (.Slice none none (some (.UnaryOp .USub (.Constant (.int 1) k p1) p2)) p3) (.ref a) (.ref s4.heap.objs.size)) (EP X pins σ Q) X.xe { s4 with heap := s4.heap.push { cls := .type "slice", data := .fields #[vl, vu, vs] } }
  refine tail_any (ops := [.ref a, .ref s4.heap.objs.size]) ht.typeIs PyProof.Rows.slot_tuple_getitem.lookup ?_ (by with_unfolding_all rfl)
  refine getItem_tuple_rev ht (Heap.IsSliceOf.new _ vl vu vs) pl pu ps ?_ (by rw [List.size_toArray]; omega)
  refine ⟨.ref _, _, I5.laid (t' := s4.toks) (o := .tup xs.reverse) (fun b ob q => Heap.get?_push_of_some _ q) (Nat.le_refl _) ?_, rfl, q _ (I5.hok.fresh (Nat.le_refl _))⟩
  exact ⟨by rw [List.length_reverse]; exact hz, _, r.reverse, IsTup.new _ _⟩
def fRevT (d : D) (R : S → Prop) : Prop := match d with
  | .tup ds => R (.d (.tup ds.reverse))
  | _ => False
theorem de_revT {k : Nat} {p1 p3 : Pos} (he : DE X G T e w) : DE X G T (.Subscript e (.Slice none none (some (.UnaryOp .USub (.Constant (.int 1) k p1) p2)) p3) pos) (wUn fRevT w) :=
  pe_weak (pe_revT he) fun σ H Q h => lE_un (K := X.K) (r := fun x H1 Q => ∃ a xs, x = .ref a ∧ SqT X.K H1 a xs ∧ ∀ p, H1 p = none → Q (.ref p) (upd H1 p (.tup xs.reverse))) (fun G W ρ σ H d x R Q ok hd f k => by
    match d, x, hd, f with
    | .tup ds, _, .tup e da, f => exact ⟨_, _, rfl, e.sq, fun q hq => k _ _ _ _ f (.newF ok hq) (.of (res_tup ok hq da.reverse))⟩) h
end
end DL


/-! DL26: xs.pop(k) of an own list, as a value. -/
namespace DL
open PySem PySem.Spec L2
section
variable {X : Cx} {G : Gx} {T : WX} {e : Expr} {w : WE} {p apos cpos : Pos}
end
end DL


/-! DL27 (begun): the order of tuples of tuples of ints; the machine's part is not written yet. -/
namespace DL
open PySem PySem.Spec L2 PyProof.Rows
/-! ### over the machine -/
section
variable {prog : Program} {w : World} {A : Around} {E : Value → Shared → Prop} {s : Shared}
inductive TsAre (h : Heap) : List Value → List (List Int) → Prop
  | nil : TsAre h [] []
  | cons {v ns vs nss} : TS.TupInts h v ns → TsAre h vs nss → TsAre h (v :: vs) (ns :: nss)
theorem TsAre.keeps {h h' : Heap} {vs : List Value} {nss : List (List Int)} (x : TsAre h vs nss) (k : ∀ b o, h.get? b = some o → o.cls = .type "tuple" → h'.get? b = some o) : TsAre h' vs nss := by
  induction x with
  | nil => exact .nil
  | cons hv _ ih => exact .cons (hv.keeps k) ih
theorem TsAre.length {h : Heap} {vs : List Value} {nss : List (List Int)} (x : TsAre h vs nss) : vs.length = nss.length := by
  induction x with
  | nil => rfl
  | cons _ _ ih => rw [List.length_cons, List.length_cons, ih]
/-- a tuple of tuples of ints -/
def TupTT (h : Heap) (v : Value) (nss : List (List Int)) : Prop := ∃ a xs, v = .ref a ∧ IsTup h a xs ∧ TsAre h xs.toList nss
theorem TupTT.keeps {h h' : Heap} {v : Value} {nss : List (List Int)} (x : TupTT h v nss) (k : ∀ b o, h.get? b = some o → o.cls = .type "tuple" → h'.get? b = some o) : TupTT h' v nss := by
  obtain ⟨a, xs, e, ⟨o, ho, hc, n, hd⟩, i⟩ := x
  exact ⟨a, xs, e, ⟨o, k a o ho hc, hc, n, hd⟩, i.keeps k⟩
end
inductive VsTI (K : PySem.W.Frag) (H : Hp) : List V → List (List Int) → Prop
  | nil : VsTI K H [] []
  | cons {x ns xs nss} : TupI K H x ns → VsTI K H xs nss → VsTI K H (x :: xs) (ns :: nss)
def SqTT (K : PySem.W.Frag) (H : Hp) (t : Addr) (nss : List (List Int)) : Prop := ∃ xs, SqT K H t xs ∧ VsTI K H xs nss
def TupTI (K : PySem.W.Frag) (H : Hp) (x : V) (nss : List (List Int)) : Prop := ∃ t, x = .ref t ∧ SqTT K H t nss
/-- a tuple of tuples of ints as data -/
abbrev dTT (k : List (List Int)) : D := .tup (k.map dT)
theorem vsTI_of {K : PySem.W.Frag} {W : Wd} {H : Hp} : ∀ {nss : List (List Int)} {xs : List V}, DnA K W H (nss.map dT) xs → VsTI K H xs nss
  | [], _, .nil => .nil
  | _ :: _, _ :: _, .cons h1 h2 => .cons (dn_tupI h1) (vsTI_of h2)
theorem dn_tupTI {K : PySem.W.Frag} {W : Wd} {H : Hp} {nss : List (List Int)} {x : V} (h : Dn K W H (dTT nss) x) : TupTI K H x nss := by
  cases h with
  | tup h1 h2 => exact ⟨_, rfl, _, h1.sq, vsTI_of h2⟩
where
  dna_memTT : ∀ {ks : List (List (List Int))} {ys : List V} {m : List (List Int)}, DnA K W H (ks.map dTT) ys → m ∈ ks → ∃ y ∈ ys, TupTI K H y m
  | [], _, _, _, h => by simp at h
  | k :: ks, _ :: ys, m, .cons h1 h2, h => by
    rcases List.mem_cons.mp h with rfl | h
    · exact ⟨_, List.mem_cons_self .., dn_tupTI h1⟩
    · obtain ⟨y, hy, ht⟩ := dna_memTT h2 h
      exact ⟨y, List.mem_cons_of_mem _ hy, ht⟩
end DL


/-! ML1: computations over data: what may come out, as a monotone predicate transformer; equations. -/
namespace DL
open PySem PySem.Spec L2
structure M (α : Type) where
  wp : Mem → (α → Mem → Prop) → Prop
  mono : ∀ {μ : Mem} {P Q : α → Mem → Prop}, (∀ a μ', P a μ' → Q a μ') → wp μ P → wp μ Q
variable {α β γ : Type}
theorem M.ext {m n : M α} (h : ∀ μ P, m.wp μ P = n.wp μ P) : m = n := by
  have e : m.wp = n.wp := funext fun μ => funext (h μ)
  cases m
  cases n
  cases e
  rfl
def M.one (a : α) : M α := ⟨fun μ P => P a μ, fun h => h a _⟩
def M.bind (m : M α) (k : α → M β) : M β := ⟨fun μ P => m.wp μ fun a μ1 => (k a).wp μ1 P, fun h q => m.mono (fun a _ r => (k a).mono h r) q⟩
def M.bad : M α := ⟨fun _ _ => False, fun _ h => h⟩
/-- p must hold -/
def M.req (p : Prop) (m : M α) : M α := ⟨fun μ P => p ∧ m.wp μ P, fun h q => ⟨q.1, m.mono h q.2⟩⟩
/-- any a with p a -/
def M.any (p : α → Prop) : M α := ⟨fun μ P => ∀ a, p a → P a μ, fun h q a ha => h a _ (q a ha)⟩
/-- a predicate transformer, made monotone -/
def M.lift (f : (α → Prop) → Prop) : M α := ⟨fun μ P => ∃ R, f R ∧ ∀ a, R a → P a μ, fun h ⟨R, q, r⟩ => ⟨R, q, fun a ha => h a _ (r a ha)⟩⟩
/-- the cells are asked -/
def M.ask (f : Mem → M α) : M α := ⟨fun μ P => (f μ).wp μ P, fun h q => (f _).mono h q⟩
/-- the cells are changed -/
def M.upd (f : Mem → Mem) (m : M α) : M α := ⟨fun μ P => m.wp (f μ) P, fun h q => m.mono h q⟩
@[simp] theorem wp_one {a : α} {μ : Mem} {P : α → Mem → Prop} : (M.one a).wp μ P = P a μ := rfl
@[simp] theorem wp_bind {m : M α} {k : α → M β} {μ : Mem} {P : β → Mem → Prop} : (m.bind k).wp μ P = m.wp μ fun a μ1 => (k a).wp μ1 P := rfl
@[simp] theorem wp_bad {μ : Mem} {P : α → Mem → Prop} : (M.bad : M α).wp μ P = False := rfl
@[simp] theorem wp_req {p : Prop} {m : M α} {μ : Mem} {P : α → Mem → Prop} : (m.req p).wp μ P = (p ∧ m.wp μ P) := rfl
@[simp] theorem wp_any {p : α → Prop} {μ : Mem} {P : α → Mem → Prop} : (M.any p).wp μ P = ∀ a, p a → P a μ := rfl
@[simp] theorem wp_ask {f : Mem → M α} {μ : Mem} {P : α → Mem → Prop} : (M.ask f).wp μ P = (f μ).wp μ P := rfl
@[simp] theorem wp_upd {f : Mem → Mem} {m : M α} {μ : Mem} {P : α → Mem → Prop} : (M.upd f m).wp μ P = m.wp (f μ) P := rfl
theorem wp_lift {f : (α → Prop) → Prop} {μ : Mem} {P : α → Mem → Prop} : (M.lift f).wp μ P = ∃ R, f R ∧ ∀ a, R a → P a μ := rfl
theorem wp_ite {c : Prop} [Decidable c] {m n : M α} {μ : Mem} {P : α → Mem → Prop} : (if c then m else n).wp μ P = if c then m.wp μ P else n.wp μ P := by split <;> rfl
@[simp ↓] theorem one_bind {a : α} {k : α → M β} : (M.one a).bind k = k a := rfl
@[simp ↓] theorem bind_bind {m : M α} {k : α → M β} {l : β → M γ} : (m.bind k).bind l = m.bind fun a => (k a).bind l := rfl
@[simp ↓] theorem req_bind {p : Prop} {m : M α} {k : α → M β} : (m.req p).bind k = (m.bind k).req p := rfl
@[simp] theorem req_true {m : M α} : m.req True = m := M.ext fun μ P => by simp
@[simp] theorem req_false {m : M α} : m.req False = M.bad := M.ext fun μ P => by simp
@[simp] theorem req_req {p q : Prop} {m : M α} : (m.req q).req p = m.req (p ∧ q) := M.ext fun μ P => by simp [and_assoc]
theorem req_of {p : Prop} {m : M α} (h : p) : m.req p = m := M.ext fun μ P => by simp [h]
theorem lift_one {f : (α → Prop) → Prop} {a : α} (h : ∀ R, f R = R a) : M.lift f = M.one a := M.ext fun μ P => by
  rw [wp_lift, wp_one]
  exact propext ⟨fun ⟨R, q, r⟩ => r a (by rw [← h R]; exact q), fun q => ⟨fun a => P a μ, by rw [h]; exact q, fun _ z => z⟩⟩
theorem lift_req {f : (α → Prop) → Prop} {p : Prop} {a : α} (h : ∀ R, f R = (p ∧ R a)) : M.lift f = (M.one a).req p := M.ext fun μ P => by
  rw [wp_lift, wp_req, wp_one]
  exact propext ⟨fun ⟨R, q, r⟩ => by rw [h] at q; exact ⟨q.1, r a q.2⟩, fun q => ⟨fun a => P a μ, by rw [h]; exact q, fun _ z => z⟩⟩
theorem lift_bad {f : (α → Prop) → Prop} (h : ∀ R, f R = False) : M.lift f = M.bad := M.ext fun μ P => by
  rw [wp_lift, wp_bad]
  exact propext ⟨fun ⟨R, q, _⟩ => by rw [h] at q; exact q, fun q => q.elim⟩
/-- m may take the place of n -/
def M.le (m n : M α) : Prop := ∀ μ P, n.wp μ P → m.wp μ P
theorem M.le_refl (m : M α) : m.le m := fun _ _ h => h
theorem M.le_trans {m n o : M α} (h : m.le n) (h' : n.le o) : m.le o := fun μ P q => h μ P (h' μ P q)
/-- whatever comes out is so, the cells stay -/
def M.sat (m : M α) (P : α → Prop) : Prop := ∀ μ, m.wp μ fun a μ' => μ' = μ ∧ P a
theorem M.sat.mono {m : M α} {P Q : α → Prop} (h : m.sat P) (k : ∀ a, P a → Q a) : m.sat Q := fun μ => m.mono (fun a μ' ⟨e, q⟩ => ⟨e, k a q⟩) (h μ)
theorem M.sat.wp {m : M α} {P : α → Prop} (h : m.sat P) {μ : Mem} {Q : α → Mem → Prop} (k : ∀ a, P a → Q a μ) : m.wp μ Q := m.mono (fun a μ' ⟨e, q⟩ => by subst e; exact k a q) (h μ)
theorem M.sat.bind {m : M α} {P : α → Prop} {k : α → M β} {Q : β → Prop} (h : m.sat P) (hk : ∀ a, P a → (k a).sat Q) : (m.bind k).sat Q := fun μ => h.wp fun a ha => hk a ha μ
theorem M.le.sat {m n : M α} {P : α → Prop} (h : m.le n) (q : n.sat P) : m.sat P := fun μ => h _ _ (q μ)
@[simp] theorem sat_one {a : α} {P : α → Prop} : (M.one a).sat P = P a := propext ⟨fun h => (h []).2, fun h μ => ⟨rfl, h⟩⟩
@[simp] theorem sat_req {p : Prop} {m : M α} {P : α → Prop} : (m.req p).sat P = (p ∧ m.sat P) := propext ⟨fun h => ⟨(h []).1, fun μ => (h μ).2⟩, fun h μ => ⟨h.1, h.2 μ⟩⟩
@[simp] theorem sat_anyB {p : α → Prop} {k : α → M β} {P : β → Prop} : ((M.any p).bind k).sat P = ∀ a, p a → (k a).sat P := propext ⟨fun h a ha μ => h μ a ha, fun h μ a ha => h a ha μ⟩
/-! ### what an expression, a statement comes to -/
inductive Oc (α : Type) where
  | v (a : α) | x (e : Exn)
def Oc.elim (r : Oc α) (f : α → β) (g : Exn → β) : β := match r with
  | .v a => f a
  | .x e => g e
@[simp] theorem oc_v {a : α} {f : α → β} {g : Exn → β} : (Oc.v a).elim f g = f a := rfl
inductive Fl where
  | nx | bk | ct | rt (s : S) | ex (e : Exn)
abbrev ME (α : Type) := M (Oc α × Sl)
abbrev MS := M (Fl × Sl)
abbrev EM (α : Type) := Sl → ME α
abbrev SM := Sl → MS
def ok (a : α) (ρ : Sl) : ME α := M.one (.v a, ρ)
def er (e : Exn) (ρ : Sl) : ME α := M.one (.x e, ρ)
def bindE (m : ME α) (k : α → Sl → ME β) : ME β := m.bind fun r => r.1.elim (fun a => k a r.2) fun e => er e r.2
/-- a def's answer, a built-in's -/
def put (m : M (Oc α)) (ρ : Sl) : ME α := m.bind fun r => M.one (r, ρ)
def putM (m : M α) (ρ : Sl) : ME α := m.bind fun r => ok r ρ
def nx (ρ : Sl) : MS := M.one (.nx, ρ)
def bk (ρ : Sl) : MS := M.one (.bk, ρ)
def ct (ρ : Sl) : MS := M.one (.ct, ρ)
def rt (s : S) : MS := M.one (.rt s, [])
def ex (e : Exn) (ρ : Sl) : MS := M.one (.ex e, ρ)
def bindES (m : ME α) (k : α → Sl → MS) : MS := m.bind fun r => r.1.elim (fun a => k a r.2) fun e => ex e r.2
def bindN (m : MS) (k : Sl → MS) : MS := m.bind fun r => match r.1 with
  | .nx => k r.2
  | f => M.one (f, r.2)
/-- what a def hands back -/
def val (s : S) : M (Oc S) := M.one (.v s)
def exn (e : Exn) : M (Oc S) := M.one (.x e)
def out (m : MS) : M (Oc S) := m.bind fun r => match r.1 with
  | .nx => val (.d .non)
  | .rt s => val s
  | .ex e => exn e
  | _ => M.bad
def bindR (m : M (Oc S)) (k : S → M (Oc S)) : M (Oc S) := m.bind fun r => r.elim k exn
section
variable {a : α} {ρ : Sl} {e : Exn} {k : α → Sl → ME β} {c : Prop} [Decidable c]
@[simp ↓] theorem bE_ok : bindE (ok a ρ) k = k a ρ := rfl
@[simp ↓] theorem bE_bind {m : M γ} {f : γ → ME α} : bindE (m.bind f) k = m.bind fun x => bindE (f x) k := rfl
@[simp ↓] theorem bE_req {m : ME α} {p : Prop} : bindE (m.req p) k = (bindE m k).req p := rfl
variable {k : α → Sl → MS}
@[simp ↓] theorem bES_ok : bindES (ok a ρ) k = k a ρ := rfl
@[simp ↓] theorem bES_er : bindES (er e ρ) k = ex e ρ := rfl
@[simp ↓] theorem bES_bind {m : M γ} {f : γ → ME α} : bindES (m.bind f) k = m.bind fun x => bindES (f x) k := rfl
@[simp ↓] theorem bES_req {m : ME α} {p : Prop} : bindES (m.req p) k = (bindES m k).req p := rfl
@[simp ↓] theorem bES_bad : bindES (M.bad : ME α) k = M.bad := rfl
variable {k : Sl → MS} {s : S}
@[simp ↓] theorem bN_nx : bindN (nx ρ) k = k ρ := rfl
@[simp ↓] theorem bN_rt : bindN (rt s) k = rt s := rfl
@[simp ↓] theorem bN_ex : bindN (ex e ρ) k = ex e ρ := rfl
@[simp ↓] theorem bN_bind {m : M γ} {f : γ → MS} : bindN (m.bind f) k = m.bind fun x => bindN (f x) k := rfl
@[simp ↓] theorem bN_req {m : MS} {p : Prop} : bindN (m.req p) k = (bindN m k).req p := rfl
@[simp ↓] theorem bN_bad : bindN (M.bad : MS) k = M.bad := rfl
@[simp ↓] theorem bN_iteL1 {n : MS} : bindN (if c then rt s else n) k = if c then rt s else bindN n k := by split <;> rfl
@[simp ↓] theorem bN_iteR1 {n : MS} : bindN (if c then n else rt s) k = if c then bindN n k else rt s := by split <;> rfl
@[simp ↓] theorem bN_bES {m : ME α} {l : α → Sl → MS} : bindN (bindES m l) k = bindES m fun a ρ => bindN (l a ρ) k := M.ext fun μ P => by
  unfold bindN bindES
  simp only [wp_bind]
  congr 1
  funext r μ1
  obtain ⟨f, ρ⟩ := r
  cases f <;> rfl
@[simp ↓] theorem bE_bE {k : α → Sl → ME β} {m : ME α} {l : β → Sl → ME γ} : bindE (bindE m k) l = bindE m fun a ρ => bindE (k a ρ) l := M.ext fun μ P => by
  unfold bindE
  simp only [wp_bind]
  congr 1
  funext r μ1
  obtain ⟨f, ρ⟩ := r
  cases f <;> rfl
@[simp ↓] theorem bES_bE {k : α → Sl → ME β} {m : ME α} {l : β → Sl → MS} : bindES (bindE m k) l = bindES m fun a ρ => bindES (k a ρ) l := M.ext fun μ P => by
  unfold bindES bindE
  simp only [wp_bind]
  congr 1
  funext r μ1
  obtain ⟨f, ρ⟩ := r
  cases f <;> rfl
@[simp ↓] theorem put_val : put (val s) ρ = ok s ρ := rfl
@[simp ↓] theorem put_exn : put (exn e) ρ = er e ρ := rfl
@[simp ↓] theorem put_bind {m : M γ} {f : γ → M (Oc α)} : put (m.bind f) ρ = m.bind fun x => put (f x) ρ := rfl
@[simp ↓] theorem put_req {m : M (Oc α)} {p : Prop} : put (m.req p) ρ = (put m ρ).req p := rfl
@[simp ↓] theorem putM_v {a : α} : putM (M.one a) ρ = ok a ρ := rfl
@[simp ↓] theorem putM_bind {m : M γ} {f : γ → M α} : putM (m.bind f) ρ = m.bind fun x => putM (f x) ρ := rfl
@[simp ↓] theorem putM_req {m : M α} {p : Prop} : putM (m.req p) ρ = (putM m ρ).req p := rfl
@[simp ↓] theorem out_nx : out (nx ρ) = val (.d .non) := rfl
@[simp ↓] theorem out_rt : out (rt s) = val s := rfl
@[simp ↓] theorem out_ex : out (ex e ρ) = exn e := rfl
@[simp ↓] theorem out_bind {m : M γ} {f : γ → MS} : out (m.bind f) = m.bind fun x => out (f x) := rfl
@[simp ↓] theorem out_req {m : MS} {p : Prop} : out (m.req p) = (out m).req p := rfl
@[simp ↓] theorem out_bad : out M.bad = M.bad := rfl
@[simp ↓] theorem out_ite {m n : MS} : out (if c then m else n) = if c then out m else out n := by split <;> rfl
@[simp] theorem wp_val {μ : Mem} {P : Oc S → Mem → Prop} : (val s).wp μ P = P (.v s) μ := rfl
@[simp] theorem wp_nx {μ : Mem} {P : Fl × Sl → Mem → Prop} : (nx ρ).wp μ P = P (.nx, ρ) μ := rfl
@[simp] theorem wp_rt {μ : Mem} {P : Fl × Sl → Mem → Prop} : (rt s).wp μ P = P (.rt s, []) μ := rfl
@[simp] theorem wp_ok {a : α} {μ : Mem} {P : Oc α × Sl → Mem → Prop} : (ok a ρ).wp μ P = P (.v a, ρ) μ := rfl
end
section
variable {f : Mem → ME α} {k : α → Sl → ME β} {g : Mem → Mem} {ρ : Sl}
@[simp ↓] theorem bE_ask : bindE (M.ask f) k = M.ask fun μ => bindE (f μ) k := rfl
@[simp ↓] theorem bES_ask {k : α → Sl → MS} : bindES (M.ask f) k = M.ask fun μ => bindES (f μ) k := rfl
@[simp ↓] theorem bN_ask {f : Mem → MS} {k : Sl → MS} : bindN (M.ask f) k = M.ask fun μ => bindN (f μ) k := rfl
@[simp ↓] theorem bN_upd {m : MS} {k : Sl → MS} : bindN (M.upd g m) k = M.upd g (bindN m k) := rfl
end
/-! ### back to the readings -/
def tw (m : EM α) : ZK → Rho → (α → Rho → Prop) → Prop := fun Z ρ R => (m ρ.sl).wp ρ.mm fun r μ => r.1.elim (fun a => R a ⟨r.2, μ⟩) fun e => Z e ⟨r.2, μ⟩
def flC (E : DEnds) (r : Fl × Sl) (μ : Mem) : Prop := match r.1 with
  | .nx => E.nx ⟨r.2, μ⟩
  | .bk => E.bk ⟨r.2, μ⟩
  | .ct => E.ct ⟨r.2, μ⟩
  | .rt s => E.rt s μ
  | .ex e => E.ex e ⟨r.2, μ⟩
def ts (m : SM) : WS := fun E ρ => (m ρ.sl).wp ρ.mm (flC E)
def tf (f : List D → M (Oc S)) : WF := fun Z ds μ R => (f ds).wp μ fun r μ' => r.elim (fun s => R s μ') fun e => Z e μ'
theorem tw_bind {m : ME α} {k : α → Sl → ME β} {μ : Mem} {P : Oc β × Sl → Mem → Prop} : (bindE m k).wp μ P = m.wp μ fun r μ1 => r.1.elim (fun a => (k a r.2).wp μ1 P) fun e => P (.x e, r.2) μ1 := by
  unfold bindE
  rw [wp_bind]
  congr 1
  funext ⟨r, ρ⟩ μ1
  cases r <;> rfl
theorem tES_bind {m : ME α} {k : α → Sl → MS} {μ : Mem} {P : Fl × Sl → Mem → Prop} : (bindES m k).wp μ P = m.wp μ fun r μ1 => r.1.elim (fun a => (k a r.2).wp μ1 P) fun e => P (.ex e, r.2) μ1 := by
  unfold bindES
  rw [wp_bind]
  congr 1
  funext ⟨r, ρ⟩ μ1
  cases r <;> rfl
theorem tN_bind {m : MS} {k : Sl → MS} {E : DEnds} {μ : Mem} : (bindN m k).wp μ (flC E) = m.wp μ (flC { E with nx := fun ρ => (k ρ.sl).wp ρ.mm (flC E) }) := by
  unfold bindN
  rw [wp_bind]
  congr 1
  funext ⟨r, ρ⟩ μ1
  cases r <;> rfl
theorem twE {m : ME α} {k : α → Sl → ME β} {Z : ZK} {μ : Mem} {R : β → Rho → Prop} : (bindE m k).wp μ (fun r μ => r.1.elim (fun a => R a ⟨r.2, μ⟩) fun e => Z e ⟨r.2, μ⟩) = m.wp μ fun r μ => r.1.elim (fun a => (k a r.2).wp μ (fun r μ => r.1.elim (fun a => R a ⟨r.2, μ⟩) fun e => Z e ⟨r.2, μ⟩)) fun e => Z e ⟨r.2, μ⟩ := by
  rw [tw_bind]; rfl
theorem twS {m : ME α} {k : α → Sl → MS} {E : DEnds} {μ : Mem} : (bindES m k).wp μ (flC E) = m.wp μ fun r μ => r.1.elim (fun a => (k a r.2).wp μ (flC E)) fun e => E.ex e ⟨r.2, μ⟩ := by
  rw [tES_bind]; rfl
theorem tw_putM {m : M α} {ρ : Sl} {Z : ZK} {μ : Mem} {R : α → Rho → Prop} : (putM m ρ).wp μ (fun r μ => r.1.elim (fun a => R a ⟨r.2, μ⟩) fun e => Z e ⟨r.2, μ⟩) = m.wp μ fun a μ => R a ⟨ρ, μ⟩ := rfl
theorem tw_put {m : M (Oc α)} {ρ : Sl} {Z : ZK} {μ : Mem} {R : α → Rho → Prop} : (put m ρ).wp μ (fun r μ => r.1.elim (fun a => R a ⟨r.2, μ⟩) fun e => Z e ⟨r.2, μ⟩) = m.wp μ fun r μ => r.elim (fun a => R a ⟨ρ, μ⟩) fun e => Z e ⟨ρ, μ⟩ := rfl
theorem ts_out {m : MS} {μ : Mem} {R : S → Mem → Prop} {Z : Exn → Mem → Prop} : (out m).wp μ (fun r μ => r.elim (fun s => R s μ) fun e => Z e μ) = m.wp μ (flC ⟨fun ρ => R (.d .non) ρ.mm, R, fun _ => False, fun _ => False, fun x ρ => Z x ρ.mm⟩) := by
  unfold out
  rw [wp_bind]
  congr 1
  funext ⟨r, ρ⟩ μ1
  cases r <;> rfl
end DL


/-! ML2: the constructs as computations: expressions. -/
namespace DL
open PySem PySem.Spec L2
def QE (X : Cx) (G : Gx) (T : WX) (e : Expr) (m : EM S) : Prop := DE X G T e (tw m)
def QT (X : Cx) (G : Gx) (T : WX) (e : Expr) (m : EM Bool) : Prop := DT X G T e (tw m)
def QW (X : Cx) (G : Gx) (T : WX) (e : Expr) (m : EM Bool) : Prop := DW X G T e (tw m)
def QA (X : Cx) (G : Gx) (T : WX) (es : List Expr) (m : EM (List D)) : Prop := DA X G T es (tw m)
def QK (X : Cx) (G : Gx) (T : WX) (es : List Keyword) (m : EM (List D)) : Prop := DK X G T es (tw m)
def QO (X : Cx) (G : Gx) (T : WX) (e : Option Expr) (m : EM (Option Int)) : Prop := DO X G T e (tw m)
def QI (X : Cx) (G : Gx) (T : WX) (tg it : Expr) (m : EM (List D)) : Prop := DI X G T tg it (tw m)
def QTs (X : Cx) (G : Gx) (T : WX) (ifs : List Expr) (m : EM Bool) : Prop := DTs X G T ifs (tw m)
section
variable {X : Cx} {G : Gx} {T : WX} {e a b c : Expr} {pos p p2 apos cpos : Pos} {es rest : List Expr}
theorem lE_mono {K : PySem.W.Frag} {w w' : WE} (i : ∀ Z ρ R, w' Z ρ R → w Z ρ R) {σ : L2.St} {H : Hp} {Q : VK} (h : lE K G T w' σ H Q) : lE K G T w σ H Q := by
  obtain ⟨W, ρ, R, Z, ok, h, r⟩ := h
  exact ⟨W, ρ, R, Z, ok, i _ _ _ h, r⟩
theorem de_mono {w w' : WE} (h : DE X G T e w) (i : ∀ Z ρ R, w' Z ρ R → w Z ρ R) : DE X G T e w' := pe_weak h fun σ H Q q => lE_mono i q
/-! ### slots, constants -/
def mVar (i : Nat) : EM S := fun ρ => match ρ[i]? with
  | some (some d) => ok (.d d.frz) (if d.isOwn = true then ρ.set i (some (.d d.frz)) else ρ)
  | _ => M.bad
theorem qe_var (i : Nat) {x : Str} (hN : X.N[i]? = some x := by rfl) (hv : Vis X.env.scope x := by first | exact Or.inl rfl | exact Or.inr (Or.inl rfl) | exact Or.inr (Or.inr rfl)) (hd : (x == ("__debug__" : Str)) = false := by decide)
    (hcd : (x == ("__classdict__" : Str)) = false := by decide) : QE X G T (.Name x pos) (mVar i) :=
  de_mono (de_var i hN hv hd hcd) fun Z ρ R h => by
    unfold tw mVar at h
    unfold wVar
    split at h
    · rename_i d e
      try rw [e]
      cases q : d.isOwn <;> simpa [q, Rho.set] using h
    · exact False.elim h
def mC (d : D) : EM S := fun ρ => ok (.d d) ρ
theorem qe_c {d : D} (h : DE X G T e (wC d)) : QE X G T e (mC d) := h
theorem qe_int {i j} : QE X G T (.Constant (.int i) j pos) (mC (.int i)) := de_int
theorem qe_bl {i j} : QE X G T (.Constant (.bool i) j pos) (mC (.bl i)) := de_bl
theorem qe_non {j} : QE X G T (.Constant .none j pos) (mC .non) := de_non
theorem qe_str {i j} : QE X G T (.Constant (.str i) j pos) (mC (.str i)) := de_str
theorem qe_bty {x : Str} {n : String} (hg : Gl X x) (hm : X.mg x = none) (hv : bootBuiltins x = some (.type n)) (hn : x ≠ "__name__" := by decide) (hd : (x == ("__debug__" : Str)) = false := by decide) : QE X G T (.Name x pos) (mC (.v (.ty n))) := de_bty hg hm hv hn hd
theorem qe_gint {x : Str} {i : Int} {pos : Pos} (hm : ∃ t, X.mg x = some (.int i t)) (hg : Gl X x := by rfl) (hd : (x == ("__debug__" : Str)) = false := by decide) : QE X G T (.Name x pos) (mC (.int i)) := de_gintE hm hg hd
/-! ### operators -/
def mBin (f : D → D → (S → Prop) → Prop) (ma mb : EM S) : EM S := fun ρ => bindE (ma ρ) fun x ρ1 => bindE (mb ρ1) fun y ρ2 => putM (M.lift (f x.frz y.frz)) ρ2
/-- made monotone -/
def mcl {α : Type} (f : (α → Prop) → Prop) (P : α → Prop) : Prop := ∃ R, f R ∧ ∀ a, R a → P a
abbrev mc2 (f : D → D → (S → Prop) → Prop) : D → D → (S → Prop) → Prop := fun d e R => mcl (f d e) R
abbrev mc1 (f : D → (S → Prop) → Prop) : D → (S → Prop) → Prop := fun d R => mcl (f d) R
abbrev mcA (f : List D → (S → Prop) → Prop) : List D → (S → Prop) → Prop := fun d R => mcl (f d) R
theorem od_mc {K : PySem.W.Frag} {r : R2} {f : D → D → (S → Prop) → Prop} (h : OpD K r f) : OpD K r (mc2 f) :=
  fun G W ρ σ H d e x y R Q ok a b ⟨R0, f0, i⟩ k => h G W ρ σ H d e x y R0 Q ok a b f0 fun z W' v H' hz => k z W' v H' (i z hz)
theorem ud_mc {K : PySem.W.Frag} {r : V → Hp → VK → Prop} {f : D → (S → Prop) → Prop} (h : UnD K r f) : UnD K r (mc1 f) :=
  fun G W ρ σ H d x R Q ok a ⟨R0, f0, i⟩ k => h G W ρ σ H d x R0 Q ok a f0 fun z W' v H' hz => k z W' v H' (i z hz)
theorem cd_mc {K : PySem.W.Frag} {r : List V → Hp → VK → Prop} {f : List D → (S → Prop) → Prop} (h : CaD K r f) : CaD K r (mcA f) :=
  fun G W ρ σ H d x R Q ok a ⟨R0, f0, i⟩ k => h G W ρ σ H d x R0 Q ok a f0 fun z W' v H' hz => k z W' v H' (i z hz)
variable {ma mb mc : EM S}
theorem tw_bin {f : D → D → (S → Prop) → Prop} : tw (mBin f ma mb) = wBin (mc2 f) (tw ma) (tw mb) := by
  funext Z ρ R
  simp only [tw, mBin, twE, tw_putM]; rfl
theorem qe_op {op : Operator} {r : R2} {f : D → D → (S → Prop) → Prop} (hr : OpR X (binaryOp op) r) (ho : OpD X.K r f) (ha : QE X G T a ma) (hb : QE X G T b mb) : QE X G T (.BinOp a op b pos) (mBin f ma mb) := by
  unfold QE; rw [tw_bin]; exact de_op hr (od_mc ho) ha hb
theorem qe_cmp {op : CmpOp} {r : R2} {f : D → D → (S → Prop) → Prop} (hr : OpR X (compareOp op) r) (ho : OpD X.K r f) (ha : QE X G T a ma) (hb : QE X G T b mb) (hm : behindInMarks op b = false) : QE X G T (.Compare a [op] [b] pos) (mBin f ma mb) := by
  unfold QE; rw [tw_bin]; exact de_cmp hr (od_mc ho) ha hb hm
def asB (s : S) (ρ : Sl) : ME Bool := match s with
  | .d (.bl b) => ok b ρ
  | _ => M.bad
@[simp ↓] theorem asB_bl {b : Bool} {ρ : Sl} : asB (.d (.bl b)) ρ = ok b ρ := rfl
def mB (m : EM S) : EM Bool := fun ρ => bindE (m ρ) asB
theorem wp_asB {s : S} {ρ : Sl} {Z : ZK} {μ : Mem} {R : Bool → Rho → Prop} : (asB s ρ).wp μ (fun r μ => r.1.elim (fun a => R a ⟨r.2, μ⟩) fun e => Z e ⟨r.2, μ⟩) = s.isB fun b => R b ⟨ρ, μ⟩ := by
  cases s with
  | d d => cases d <;> rfl
  | _ => rfl
theorem wp_asBP {s : S} {ρ : Sl} {μ : Mem} {P : Oc Bool × Sl → Mem → Prop} : (asB s ρ).wp μ P = s.isB fun b => P (.v b, ρ) μ := by
  cases s with
  | d d => cases d <;> rfl
  | _ => rfl
theorem tw_B : tw (mB ma) = wB (tw ma) := by
  funext Z ρ R
  simp only [tw, mB, twE, wp_asB]; rfl
theorem qt_val (h : QE X G T e ma) (he : ∀ whole, isTrue e X.env whole = (do let v ← whole; standAt e.pos; holding [v] (truthy v)) := by intro _; rfl) : QT X G T e (mB ma) := by
  unfold QT; rw [tw_B]; exact dt_val h he
theorem qt_cmp {op : CmpOp} {r : R2} {f : D → D → (S → Prop) → Prop} (hr : OpR X (compareOp op) r) (ho : OpD X.K r f) (ha : QE X G T a ma) (hb : QE X G T b mb) (hm : behindInMarks op b = false) : QT X G T (.Compare a [op] [b] pos) (mB (mBin f ma mb)) := by
  unfold QT; rw [tw_B, tw_bin]; exact dt_cmp hr (od_mc ho) ha hb hm
def mChain (f f' : D → D → (S → Prop) → Prop) (ma mb mc : EM S) : EM S := fun ρ => bindE (ma ρ) fun x ρ1 => bindE (mb ρ1) fun y ρ2 => bindE (putM (M.lift (f x.frz y.frz)) ρ2) fun z ρ2 => bindE (asB z ρ2) fun k ρ2 =>
  if k = true then bindE (mc ρ2) fun u ρ3 => putM (M.lift (f' y.frz u.frz)) ρ3 else ok (.d (.bl false)) ρ2
theorem wp_putME {α : Type} {m : M α} {ρ : Sl} {μ : Mem} {P : Oc α × Sl → Mem → Prop} : (putM m ρ).wp μ P = m.wp μ fun a μ => P (.v a, ρ) μ := rfl
theorem tw_chain {f f' : D → D → (S → Prop) → Prop} : tw (mChain f f' ma mb mc) = wChain (mc2 f) (mc2 f') (tw ma) (tw mb) (tw mc) := by
  funext Z ρ R
  simp only [tw, mChain, twE, tw_putM, wp_putME, wp_asBP, oc_v, wp_ite]; rfl
theorem qe_chain {op op' : CmpOp} {r r' : R2} {f f' : D → D → (S → Prop) → Prop} (hr : OpR X (compareOp op) r) (hr' : OpR X (compareOp op') r') (ho : OpD X.K r f) (ho' : OpD X.K r' f') (ha : QE X G T a ma) (hb : QE X G T b mb) (hc : QE X G T c mc)
    (hm : lastMarks [op, op'] [b, c] = false := by with_unfolding_all rfl) : QE X G T (.Compare a [op, op'] [b, c] pos) (mChain f f' ma mb mc) := by
  unfold QE; rw [tw_chain]; exact de_chain hr hr' (od_mc ho) (od_mc ho') ha hb hc hm
/-! ### and, or, not -/
variable {t u : EM Bool}
def mAnd (t u : EM Bool) : EM Bool := fun ρ => bindE (t ρ) fun c ρ1 => if c = true then u ρ1 else ok false ρ1
def mOr (t u : EM Bool) : EM Bool := fun ρ => bindE (t ρ) fun c ρ1 => if c = true then ok true ρ1 else u ρ1
def mNot (t : EM Bool) : EM Bool := fun ρ => bindE (t ρ) fun c ρ1 => ok (!c) ρ1
theorem QW.pt (h : QW X G T e t) : QT X G T e t := DW.pt h
theorem qw_and1 (h : QT X G T a t) : QW X G T (.BoolOp .And [a] pos) t := dw_and1 h
theorem qw_or1 (h : QT X G T a t) : QW X G T (.BoolOp .Or [a] pos) t := dw_or1 h
theorem tw_and : tw (mAnd t u) = wAnd (tw t) (tw u) := by
  funext Z ρ R
  simp only [tw, mAnd, twE, wp_ite]; rfl
theorem tw_or : tw (mOr t u) = wOr (tw t) (tw u) := by
  funext Z ρ R
  simp only [tw, mOr, twE, wp_ite]; rfl
theorem tw_not : tw (mNot t) = wNot (tw t) := by
  funext Z ρ R
  simp only [tw, mNot, twE]; rfl
theorem qw_and (ha : QT X G T a t) (hb : QW X G T (.BoolOp .And (b :: rest) pos) u) : QW X G T (.BoolOp .And (a :: b :: rest) pos) (mAnd t u) := by
  unfold QW; rw [tw_and]; exact dw_and ha hb
theorem qw_or (ha : QT X G T a t) (hb : QW X G T (.BoolOp .Or (b :: rest) pos) u) : QW X G T (.BoolOp .Or (a :: b :: rest) pos) (mOr t u) := by
  unfold QW; rw [tw_or]; exact dw_or ha hb
theorem qt_not (ha : QT X G T a t) : QT X G T (.UnaryOp .Not a pos) (mNot t) := by
  unfold QT; rw [tw_not]; exact dt_not ha
def mAndV (ma mb : EM S) : EM S := fun ρ => bindE (ma ρ) fun x ρ1 => bindE (asB x ρ1) fun c ρ1 => if c = true then mb ρ1 else ok (.d (.bl false)) ρ1
def mOrV (ma mb : EM S) : EM S := fun ρ => bindE (ma ρ) fun x ρ1 => bindE (asB x ρ1) fun c ρ1 => if c = true then ok (.d (.bl true)) ρ1 else mb ρ1
def mNotV (ma : EM S) : EM S := fun ρ => bindE (ma ρ) fun x ρ1 => bindE (asB x ρ1) fun c ρ1 => ok (.d (.bl (!c))) ρ1
theorem tw_andV : tw (mAndV ma mb) = wAndV (tw ma) (tw mb) := by
  funext Z ρ R
  simp only [tw, mAndV, twE, wp_ite, wp_asBP, oc_v]; rfl
theorem tw_orV : tw (mOrV ma mb) = wOrV (tw ma) (tw mb) := by
  funext Z ρ R
  simp only [tw, mOrV, twE, wp_ite, wp_asBP, oc_v]; rfl
theorem tw_notV : tw (mNotV ma) = wNotV (tw ma) := by
  funext Z ρ R
  simp only [tw, mNotV, twE, wp_asBP, oc_v]; rfl
theorem qe_one {op} (h : QE X G T a ma) : QE X G T (.BoolOp op [a] pos) ma := de_one h
theorem qe_and (ha : QE X G T a ma) (hb : QE X G T (.BoolOp .And (b :: rest) pos) mb) : QE X G T (.BoolOp .And (a :: b :: rest) pos) (mAndV ma mb) := by
  unfold QE; rw [tw_andV]; exact de_and ha hb
theorem qe_or (ha : QE X G T a ma) (hb : QE X G T (.BoolOp .Or (b :: rest) pos) mb) : QE X G T (.BoolOp .Or (a :: b :: rest) pos) (mOrV ma mb) := by
  unfold QE; rw [tw_orV]; exact de_or ha hb
theorem qe_not (ha : QE X G T a ma) : QE X G T (.UnaryOp .Not a pos) (mNotV ma) := by
  unfold QE; rw [tw_notV]; exact de_not ha
def mIfE (t : EM Bool) (ma mb : EM S) : EM S := fun ρ => bindE (t ρ) fun c ρ1 => if c = true then ma ρ1 else mb ρ1
theorem tw_ifE : tw (mIfE t ma mb) = wIfE (tw t) (tw ma) (tw mb) := by
  funext Z ρ R
  simp only [tw, mIfE, twE, wp_ite]; rfl
theorem qe_if {c : Expr} (hc : QT X G T c t) (ha : QE X G T a ma) (hb : QE X G T b mb) : QE X G T (.IfExp c a b pos) (mIfE t ma mb) := by
  unfold QE; rw [tw_ifE]; exact de_if hc ha hb
def mUn (f : D → (S → Prop) → Prop) (ma : EM S) : EM S := fun ρ => bindE (ma ρ) fun x ρ1 => putM (M.lift (f x.frz)) ρ1
theorem tw_un {f : D → (S → Prop) → Prop} : tw (mUn f ma) = wUn (mc1 f) (tw ma) := by
  funext Z ρ R
  simp only [tw, mUn, twE, tw_putM]; rfl
theorem qe_neg (ha : QE X G T a ma) : QE X G T (.UnaryOp .USub a pos) (mUn fNeg ma) := by
  unfold QE; rw [tw_un]; exact pe_weak (pe_un un_neg ha) fun _ _ _ h => lE_un (ud_mc ud_neg) h
theorem qe_isN {j p} (ha : QE X G T a ma) : QE X G T (.Compare a [.Is] [.Constant .none j p] pos) (mUn fIs ma) := by
  unfold QE; rw [tw_un]
  exact pe_weak (pe_cmp (pc_isN ha)) fun σ H Q h => lE_un (K := X.K) (r := fun x H Q => Q (.bl (decide (x = .non))) H) (ud_mc (f := fIs) fun G W ρ σ H d x R Q ok h f k => k _ _ _ _ (dn_non h f) (.refl ok) (.of (.bl _))) h
theorem qt_isN {j p} (ha : QE X G T a ma) : QT X G T (.Compare a [.Is] [.Constant .none j p] pos) (mB (mUn fIs ma)) := by
  unfold QT; rw [tw_B, tw_un]
  exact pt_weak (pt_cmp (pc_isN ha)) fun σ H Q h => lT_B (t := tIsN (lE X.K G T (tw ma))) (fun Q h => lE_un (K := X.K) (r := fun x H Q => Q (.bl (decide (x = .non))) H) (ud_mc (f := fIs) fun G W ρ σ H d x R Q ok h f k => k _ _ _ _ (dn_non h f) (.refl ok) (.of (.bl _))) h) h
theorem qt_notN {j p} (ha : QE X G T a ma) : QT X G T (.Compare a [.IsNot] [.Constant .none j p] pos) (mB (mUn fIsn ma)) := by
  unfold QT; rw [tw_B, tw_un]
  exact pt_weak (pt_cmp (pc_notN ha)) fun σ H Q h => lT_B (t := tNotN (lE X.K G T (tw ma))) (fun Q h => lE_un (K := X.K) (r := fun x H Q => Q (.bl (!decide (x = .non))) H) (ud_mc (f := fIsn) fun G W ρ σ H d x R Q ok h f k => k _ _ _ _ (dn_non h f) (.refl ok) (.of (.bl _))) h) h
/-! ### argument lists, displays, calls -/
variable {mu mk : EM (List D)}
def mNil : EM (List D) := fun ρ => ok [] ρ
def mCons (m : EM S) (u : EM (List D)) : EM (List D) := fun ρ => bindE (m ρ) fun x ρ1 => bindE (u ρ1) fun xs ρ2 => ok (x.frz :: xs) ρ2
theorem tw_cons : tw (mCons ma mu) = wCons (tw ma) (tw mu) := by
  funext Z ρ R
  simp only [tw, mCons, twE]; rfl
theorem qa_nil : QA X G T [] mNil := da_nil
theorem qa_cons {es : List Expr} (ha : QE X G T a ma) (hr : QA X G T es mu) (hs : starEach (a :: es) X.env = (false, eval a X.env) :: starEach es X.env := by rfl) : QA X G T (a :: es) (mCons ma mu) := by
  unfold QA; rw [tw_cons]; exact da_cons ha hr hs
def mTup (u : EM (List D)) : EM S := fun ρ => bindE (u ρ) fun ds ρ1 => (ok (.d (.tup ds)) ρ1).req (ds.length ≤ sizeLine)
def mLst (u : EM (List D)) : EM S := fun ρ => bindE (u ρ) fun ds ρ1 => (ok (.own ds) ρ1).req (ds.length ≤ sizeLine)
theorem tw_tup : tw (mTup mu) = wTup (tw mu) := by
  funext Z ρ R
  simp only [tw, mTup, twE]; rfl
theorem tw_lst : tw (mLst mu) = wLst (tw mu) := by
  funext Z ρ R
  simp only [tw, mLst, twE]; rfl
theorem qe_tup {es : List Expr} {x1} (h : QA X G T es mu) : QE X G T (.Tuple es x1 pos) (mTup mu) := by
  unfold QE; rw [tw_tup]; exact de_tup h
theorem qe_lst {es : List Expr} (h : QA X G T es mu) : QE X G T (.List es pos) (mLst mu) := by
  unfold QE; rw [tw_lst]; exact de_lst h
def mCallB (f : List D → (S → Prop) → Prop) (u : EM (List D)) : EM S := fun ρ => bindE (u ρ) fun ds ρ1 => putM (M.lift (f ds)) ρ1
theorem tw_callB {f : List D → (S → Prop) → Prop} : tw (mCallB f mu) = wCallB (mcA f) (tw mu) := by
  funext Z ρ R
  simp only [tw, mCallB, twE, tw_putM]; rfl
theorem qe_callB {x : Str} {id : String} {es : List Expr} {r : List V → Hp → VK → Prop} {f : List D → (S → Prop) → Prop} (hr : CallR X (.builtin id) r) (ho : CaD X.K r f) (hg : Gl X x) (hm : X.mg x = none) (hv : bootBuiltins x = some (.builtin id))
    (ha : QA X G T (e :: es) mu) (hn : x ≠ "__name__" := by decide) (hdb : (x == ("__debug__" : Str)) = false := by decide)
    (he : starEach (e :: es) X.env = (false, eval e X.env) :: starEach es X.env := by rfl) (hpl : (backTo pos (starEach es X.env)).any (·.1) = false := by rfl) : QE X G T (.Call (.Name x p) (e :: es) [] pos) (mCallB f mu) := by
  unfold QE; rw [tw_callB]; exact de_callB hr (cd_mc ho) hg hm hv ha hn hdb he hpl
theorem qe_callTy {x : Str} {n : String} {es : List Expr} {r : List V → Hp → VK → Prop} {f : List D → (S → Prop) → Prop} (hr : CallR X (.type n) r) (ho : CaD X.K r f) (hg : Gl X x) (hm : X.mg x = none) (hv : bootBuiltins x = some (.type n))
    (ha : QA X G T (e :: es) mu) (hn : x ≠ "__name__" := by decide) (hdb : (x == ("__debug__" : Str)) = false := by decide)
    (he : starEach (e :: es) X.env = (false, eval e X.env) :: starEach es X.env := by rfl) (hpl : (backTo pos (starEach es X.env)).any (·.1) = false := by rfl) : QE X G T (.Call (.Name x p) (e :: es) [] pos) (mCallB f mu) := by
  unfold QE; rw [tw_callB]; exact de_callTy hr (cd_mc ho) hg hm hv ha hn hdb he hpl
/-- a def of the program -/
abbrev FM := List D → M (Oc S)
def mCall (n : Nat) (f : FM) (u : EM (List D)) : EM S := fun ρ => bindE (u ρ) fun ds ρ1 => (put (f ds) ρ1).req (ds.length = n)
theorem tw_call {n : Nat} {f : FM} : tw (mCall n f mu) = wCall n (tf f) (tw mu) := by
  funext Z ρ R
  simp only [tw, mCall, twE, wp_req, tw_put]; rfl
theorem qe_callD {nps : Nat} {k j : Nat} {ps : List Str} {f : FM} {x : Str} {st : Stmt} {p pos : Pos} {e : Expr} {es : List Expr} (C : CxG X T k) (hG : G.W.g = X.mg) (F : Df X.prog X.w X.K X.mg X.base j x st ps (tf f)) (hj : j ≤ k) (ha : QA X G T (e :: es) mu)
    (hg : Gl X x := by rfl) (hdb : (x == ("__debug__" : Str)) = false := by decide) (he : starEach (e :: es) X.env = (false, eval e X.env) :: starEach es X.env := by rfl) (hpl : (backTo pos (starEach es X.env)).any (·.1) = false := by rfl) (hnps : ps.length = nps := by rfl) :
    QE X G T (.Call (.Name x p) (e :: es) [] pos) (mCall nps f mu) := by
  subst hnps
  unfold QE; rw [tw_call]; exact de_callD C hG F hj ha hg hdb he hpl
theorem qk_nil : QK X G T [] mNil := dk_nil
theorem qk_cons {nm : Option Str} {e : Expr} {kpos : Pos} {kws : List Keyword} (ha : QE X G T e ma) (hr : QK X G T kws mu) : QK X G T (⟨nm, e, kpos⟩ :: kws) (mCons ma mu) := by
  unfold QK; rw [tw_cons]; exact dk_cons ha hr
def mCallK (n n1 n2 : Nat) (is : List Nat) (f : FM) (u uk : EM (List D)) : EM S := fun ρ => bindE (u ρ) fun ds ρ1 => (bindE (uk ρ1) fun es ρ2 => (put (f (permL .non is (ds ++ es))) ρ2).req (es.length = n2 ∧ (permL .non is (ds ++ es)).length = n ∧ ∀ i ∈ is, i < (ds ++ es).length)).req (ds.length = n1)
theorem tw_callK {n n1 n2 : Nat} {is : List Nat} {f : FM} : tw (mCallK n n1 n2 is f mu mk) = wCallK n n1 n2 is (tf f) (tw mu) (tw mk) := by
  funext Z ρ R
  simp only [tw, mCallK, twE, wp_req, tw_put, wCallK, tf, and_assoc]
theorem qe_callK0 {nps nx2 : Nat} {k j : Nat} {ps : List Str} {f : FM} {x : Str} {st : Stmt} {p pos : Pos} {kws : List Keyword} (is : List Nat) (ks : List Str) (C : CxG X T k) (hG : G.W.g = X.mg) (F : Df X.prog X.w X.K X.mg X.base j x st ps (tf f)) (hj : j ≤ k) (hkw : QK X G T kws mk)
    (hbi : ∀ (kV doc pm : Value) (an : Option Addr) (cdv ct : Value) (ws : List Value), ws.length = ks.length → bindArgs (PySem.W.fnOf x x (defArgs st) (defBody st) (defScope st) .none kV doc pm an cdv ct) ⟨[], ks.zip ws⟩ = pure (ps.zip (permL .none is ws)))
    (hall : (backToKw pos (keywordEach kws X.env)).all (·.1.isSome) = true := by rfl) (hks : (backToKw pos (keywordEach kws X.env)).filterMap (·.1) = ks := by rfl)
    (hg : Gl X x := by rfl) (hdb : (x == ("__debug__" : Str)) = false := by decide)
    (hpl : ((backTo pos (starEach [] X.env)).any (·.1) || (backToKw pos (keywordEach kws X.env)).any (·.1.isNone)) = false := by rfl) (hnps : ps.length = nps := by rfl) (hnx2 : ks.length = nx2 := by rfl) :
    QE X G T (.Call (.Name x p) [] kws pos) (mCallK nps 0 nx2 is f mNil mk) := by
  subst hnps; subst hnx2
  unfold QE; rw [tw_callK]; exact de_callK0 is ks C hG F hj hkw hbi hall hks hg hdb hpl
end
end DL


/-! ML3: the constructs as computations: slots, slices, dicts, statements, loops, comprehensions. -/
namespace DL
open PySem PySem.Spec L2
def QS (X : Cx) (G : Gx) (T : WX) (st : Stmt) (m : SM) : Prop := DS X G T st (ts m)
def QSs (X : Cx) (G : Gx) (T : WX) (st : List Stmt) (m : SM) : Prop := DSs X G T st (ts m)
theorem mcl_mono {α : Type} {f : (α → Prop) → Prop} (h : ∀ R R' : α → Prop, (∀ a, R a → R' a) → f R → f R') {P : α → Prop} : mcl f P = f P :=
  propext ⟨fun ⟨R, q, r⟩ => h R P r q, fun q => ⟨P, q, fun _ z => z⟩⟩
theorem lift_mono {α : Type} {f : (α → Prop) → Prop} (h : ∀ R R' : α → Prop, (∀ a, R a → R' a) → f R → f R') {μ : Mem} {P : α → Mem → Prop} : (M.lift f).wp μ P = f fun a => P a μ := mcl_mono h
def storesS : Sl → List (Nat × D) → Sl
  | ρ, (i, d) :: l => storesS (ρ.set i (some (.d d))) l
  | ρ, [] => ρ
def wipeS (ρ : Sl) : List Nat → Sl
  | [] => ρ
  | i :: is => (wipeS ρ is).set i none
def frzS (ρ : Sl) (i : Nat) : Sl := match ρ[i]? with
  | some (some d) => if d.isOwn = true then ρ.set i (some (.d d.frz)) else ρ
  | _ => ρ
theorem storesR_eq {μ : Mem} : ∀ {l : List (Nat × D)} {ρ : Sl}, storesR ⟨ρ, μ⟩ l = ⟨storesS ρ l, μ⟩
  | [], _ => rfl
  | (i, d) :: l, ρ => storesR_eq (l := l) (ρ := ρ.set i (some (.d d)))
theorem wipeR_eq {μ : Mem} {ρ : Sl} : ∀ {vs : List Nat}, wipeR ⟨ρ, μ⟩ vs = ⟨wipeS ρ vs, μ⟩
  | [] => rfl
  | v :: vs => by rw [wipeR, wipeR_eq (vs := vs)]; rfl
theorem Rho.eq3 {ρ : Rho} {l : List (Nat × D)} : storesR ρ l = ⟨storesS ρ.sl l, ρ.mm⟩ := storesR_eq (ρ := ρ.sl) (μ := ρ.mm)
theorem Rho.eq4 {ρ : Rho} {l : List Nat} : wipeR ρ l = ⟨wipeS ρ.sl l, ρ.mm⟩ := wipeR_eq (ρ := ρ.sl) (μ := ρ.mm)
theorem fIx_mono {d e : D} {R R' : S → Prop} (h : ∀ a, R a → R' a) (f : fIx d e R) : fIx d e R' := by
  unfold fIx at *
  split at f
  · obtain ⟨c, f1, f2, f3⟩ := f; exact ⟨c, f1, f2, h _ f3⟩
  · exact ⟨f.1, fun n hn => h _ (f.2 n hn)⟩
  · obtain ⟨ds, x, f1, f2, f3⟩ := f; exact ⟨ds, x, f1, f2, h _ f3⟩
  · exact f.elim
theorem fSl_mono {d : D} {lo hi : Option Int} {R R' : S → Prop} (h : ∀ a, R a → R' a) (f : fSl d lo hi R) : fSl d lo hi R' := by
  cases d <;> first | exact h _ f | exact ⟨f.1, h _ f.2⟩ | exact f.elim
theorem sIx_mono {s : S} {k d : D} {R R' : S → Prop} (h : ∀ a, R a → R' a) (f : sIx s k d R) : sIx s k d R' := by
  unfold sIx at *
  split at f
  · obtain ⟨n, f1, f2⟩ := f; exact ⟨n, f1, h _ f2⟩
  · exact ⟨f.1, f.2.1, h _ f.2.2⟩
  · exact f.elim
theorem dGet_mono {d k : D} {R R' : D → Prop} (h : ∀ a, R a → R' a) (f : dGet d k R) : dGet d k R' := by
  unfold dGet at *
  split at f
  · obtain ⟨n, f1, f2⟩ := f; exact ⟨n, f1, h _ f2⟩
  · exact f.elim
theorem rg1_mono {ds : List D} {R R' : List D → Prop} (h : ∀ a, R a → R' a) (f : rg1 ds R) : rg1 ds R' := by
  unfold rg1 at *
  split at f
  · exact ⟨f.1, h _ f.2⟩
  · exact f.elim
theorem rg2_mono {ds : List D} {R R' : List D → Prop} (h : ∀ a, R a → R' a) (f : rg2 ds R) : rg2 ds R' := by
  unfold rg2 at *
  split at f
  · exact ⟨f.1, h _ f.2⟩
  · exact f.elim
theorem rg3_mono {ds : List D} {R R' : List D → Prop} (h : ∀ a, R a → R' a) (f : rg3 ds R) : rg3 ds R' := by
  unfold rg3 at *
  split at f
  · obtain ⟨n, f1, f2⟩ := f; exact ⟨n, f1, h _ f2⟩
  · exact f.elim
theorem fName_mono {i : Nat} {d : D} {R R' : List (Nat × D) → Prop} (h : ∀ a, R a → R' a) (f : fName i d R) : fName i d R' := h _ f
theorem fTupN_mono {is : List Nat} {d : D} {R R' : List (Nat × D) → Prop} (h : ∀ a, R a → R' a) (f : fTupN is d R) : fTupN is d R' := by
  cases d <;> first | exact ⟨f.1, h _ f.2⟩ | exact f.elim
/-- a target, a range: monotone -/
class Mono1 {α β : Type} (f : α → (β → Prop) → Prop) : Prop where
  mono : ∀ {a R R'}, (∀ b, R b → R' b) → f a R → f a R'
instance {i : Nat} : Mono1 (fName i) := ⟨fName_mono⟩
instance {i : List Nat} : Mono1 (fTupN i) := ⟨fTupN_mono⟩
instance : Mono1 rg1 := ⟨rg1_mono⟩
instance : Mono1 rg2 := ⟨rg2_mono⟩
instance : Mono1 rg3 := ⟨rg3_mono⟩
theorem lift_m1 {α β : Type} {f : α → (β → Prop) → Prop} [i : Mono1 f] {a : α} {μ : Mem} {P : β → Mem → Prop} : (M.lift (f a)).wp μ P = f a fun b => P b μ := lift_mono fun _ _ h q => i.mono h q
section
variable {w wa wb wc wk wd : EM S} {u uk : EM (List D)} {t t1 : EM Bool} {v v' : SM} {wl wh : EM (Option Int)} {wi wi1 : EM (List D)}
/-! ### slots that may be own -/
def mIxV (i : Nat) (wk : EM S) : EM S := fun ρ => (bindE (wk ρ) fun k ρ1 => match ρ1[i]? with
  | some (some s) => putM (M.lift (fIx s.frz k.frz)) ρ1
  | _ => M.bad).req (∃ s0, ρ[i]? = some (some s0))
theorem tw_ixV {i : Nat} : tw (mIxV i wk) = wIxV i (tw wk) := by
  funext Z ρ R
  simp only [tw, mIxV, twE, wp_req, wIxV]
  congr 2
  funext r μ1
  congr 1
  funext k
  try dsimp only
  generalize r.snd[i]? = o
  rcases o with _ | _ | s
  · rfl
  · rfl
  · exact (tw_putM.trans (lift_mono fun _ _ h q => fIx_mono h q))
/-! ### slices, dicts -/
def mNoP : EM (Option Int) := fun ρ => ok none ρ
def asI (s : S) (ρ : Sl) : ME (Option Int) := match s.frz with
  | .int i => ok (some i) ρ
  | _ => M.bad
@[simp ↓] theorem asI_int {i : Int} {ρ : Sl} : asI (.d (.int i)) ρ = ok (some i) ρ := rfl
def mPart (w : EM S) : EM (Option Int) := fun ρ => bindE (w ρ) asI
def mSl (w : EM S) (wl wh : EM (Option Int)) : EM S := fun ρ => bindE (w ρ) fun d ρ1 => bindE (wl ρ1) fun lo ρ2 => bindE (wh ρ2) fun hi ρ3 => putM (M.lift (fSl d.frz lo hi)) ρ3
theorem tw_noP : tw mNoP = wNoP := rfl
theorem tw_part : tw (mPart w) = wPart (tw w) := by
  funext Z ρ R
  simp only [tw, mPart, twE, wPart]
  congr 1
  funext r μ1
  congr 1
  funext k
  unfold asI
  try dsimp only
  generalize S.frz k = o
  cases o <;> rfl
theorem tw_sl : tw (mSl w wl wh) = wSl (tw w) (tw wl) (tw wh) := by
  funext Z ρ R
  simp only [tw, mSl, twE, wSl, tw_putM, lift_mono fun _ _ h q => fSl_mono h q]
def mDget (i : Nat) (wk : EM S) : EM S := fun ρ => (bindE (wk ρ) fun k ρ1 => match ρ1[i]? with
  | some (some s) => (M.lift (dGet s.frz k.frz)).bind fun z => ok (.d z) ρ1
  | _ => M.bad).req (∃ s0, ρ[i]? = some (some s0))
theorem tw_dget {i : Nat} : tw (mDget i wk) = wDget i (tw wk) := by
  funext Z ρ R
  simp only [tw, mDget, twE, wp_req, wDget]
  congr 2
  funext r μ1
  congr 1
  funext k
  try dsimp only
  generalize r.snd[i]? = o
  rcases o with _ | _ | s
  · rfl
  · rfl
  · exact (wp_bind.trans (lift_mono fun _ _ h q => dGet_mono h q))
def mDic0 : EM S := fun ρ => ok (.odic []) ρ
theorem tw_dic0 : tw mDic0 = wDic0 := rfl
/-! ### statements -/
def mNext : SM := fun ρ => nx ρ
def mSeq (u v : SM) : SM := fun ρ => bindN (u ρ) v
def mDrop (w : EM S) : SM := fun ρ => bindES (w ρ) fun _ ρ' => nx ρ'
def mRet (w : EM S) : SM := fun ρ => bindES (w ρ) fun s _ => rt s
def mIf (t : EM Bool) (u v : SM) : SM := fun ρ => bindES (t ρ) fun c ρ1 => if c = true then u ρ1 else v ρ1
def mSet (i : Nat) (w : EM S) : SM := fun ρ => bindES (w ρ) fun s ρ' => nx (ρ'.set i (some s))
def mPar (i j : Nat) (wa wb : EM S) : SM := fun ρ => bindES (wa ρ) fun x ρ1 => bindES (wb ρ1) fun y ρ2 => nx ((ρ2.set i (some x)).set j (some y))
def mAsgN (f : TgF) (w : EM S) : SM := fun ρ => bindES (w ρ) fun d ρ' => (M.lift (f d.frz)).bind fun l => nx (storesS ρ' l)
def mApp (i : Nat) (w : EM S) : SM := fun ρ => (bindES (w ρ) fun d ρ1 => match ρ1[i]? with
  | some (some (.own ds)) => (nx (ρ1.set i (some (.own (ds ++ [d.frz]))))).req (ds.length < sizeLine)
  | _ => M.bad).req (∃ d0, ρ[i]? = some (some (.own d0)))
def mSetIx (i : Nat) (wk w : EM S) : SM := fun ρ => bindES (w ρ) fun d ρ1 => (bindES (wk ρ1) fun k ρ2 => match ρ2[i]? with
  | some (some s) => (M.lift (sIx s k.frz d.frz)).bind fun s' => nx (if s.isOwn = true then ρ2.set i (some s') else ρ2)
  | _ => M.bad).req (∃ s0, ρ1[i]? = some (some s0))
def mDput (i : Nat) (wk w : EM S) : SM := fun ρ => bindES (w ρ) fun d ρ1 => (bindES (wk ρ1) fun k ρ2 => match ρ2[i]?, k.frz.key with
  | some (some (.odic kvs)), some κ => (nx (ρ2.set i (some (.odic (putD kvs κ d.frz))))).req (kvs.length < sizeLine)
  | _, _ => M.bad).req (∃ s0, ρ1[i]? = some (some s0))
def mAsgJ (i j : Nat) (k : Int) (w : EM S) : SM := fun ρ => bindES (w ρ) fun d ρ1 => match d.frz with
  | .tup [d1, d2] => ((M.lift (sIx (.d .jar) (.int k) d1)).bind fun _ => nx (ρ1.set j (some (.d d2)))).req (ρ1[i]? = some (some (.d .jar)))
  | _ => M.bad
theorem ts_next : ts mNext = wNext := rfl
theorem ts_seq : ts (mSeq v v') = wSeq (ts v) (ts v') := by
  funext E ρ
  simp only [ts, mSeq, tN_bind]; rfl
theorem ts_drop : ts (mDrop w) = wDrop (tw w) := by
  funext E ρ
  simp only [ts, mDrop, twS]; rfl
theorem ts_ret : ts (mRet w) = wRet (tw w) := by
  funext E ρ
  simp only [ts, mRet, twS]; rfl
theorem ts_if : ts (mIf t v v') = wIf (tw t) (ts v) (ts v') := by
  funext E ρ
  simp only [ts, mIf, twS, wp_ite]; rfl
theorem ts_set {i : Nat} : ts (mSet i w) = wSet i (tw w) := by
  funext E ρ
  simp only [ts, mSet, twS]; rfl
theorem ts_par {i j : Nat} : ts (mPar i j wa wb) = wPar i j (tw wa) (tw wb) := by
  funext E ρ
  simp only [ts, mPar, twS]; rfl
theorem ts_asgN {f : TgF} [Mono1 f] : ts (mAsgN f w) = wAsgN f (tw w) := by
  funext E ρ
  simp only [ts, mAsgN, twS, wp_bind, lift_m1, wAsgN, Rho.eq3]; rfl
theorem ts_app {i : Nat} : ts (mApp i w) = wApp i (tw w) := by
  funext E ρ
  simp only [ts, mApp, twS, wp_req, wApp]
  congr 2
  funext r μ1
  congr 1
  funext k
  try dsimp only
  generalize r.snd[i]? = o
  rcases o with _ | _ | s <;> first | rfl | (cases s <;> rfl)
theorem ts_setIx {i : Nat} : ts (mSetIx i wk w) = wSetIx i (tw wk) (tw w) := by
  funext E ρ
  simp only [ts, mSetIx, twS, wp_req, wSetIx]
  congr 1
  funext r μ1
  congr 1
  funext k
  congr 2
  funext r μ1
  congr 1
  funext k
  try dsimp only
  generalize r.snd[i]? = o
  rcases o with _ | _ | s
  · rfl
  · rfl
  · refine (wp_bind.trans (lift_mono fun _ _ h q => sIx_mono h q)).trans ?_
    cases q : s.isOwn <;> simp [Rho.set, q] <;> rfl
theorem ts_dput {i : Nat} : ts (mDput i wk w) = wDput i (tw wk) (tw w) := by
  funext E ρ
  simp only [ts, mDput, twS, wp_req, wDput]
  congr 1
  funext r μ1
  congr 1
  funext k
  congr 2
  funext r μ1
  congr 1
  funext k
  try dsimp only
  generalize r.snd[i]? = o
  generalize (S.frz k).key = p
  rcases o with _ | _ | s <;> first | rfl | (cases s <;> first | rfl | (cases p <;> rfl))
theorem ts_asgJ {i j : Nat} {k : Int} : ts (mAsgJ i j k w) = wAsgJ i j k (tw w) := by
  funext E ρ
  simp only [ts, mAsgJ, twS, wAsgJ]
  congr 1
  funext r μ1
  congr 1
  funext d
  try dsimp only
  generalize S.frz d = o
  split
  · rename_i d1 d2
    rw [asgJ_tup, wp_req, wp_bind, lift_mono fun _ _ h q => sIx_mono h q]; rfl
  · rename_i h
    refine propext ⟨fun q => q.elim, fun ⟨d1, d2, e, _⟩ => h d1 d2 e⟩
/-! ### what is walked -/
def asItems (s : S) (ρ : Sl) : ME (List D) := match s.frz.items with
  | some ds => ok ds ρ
  | _ => M.bad
@[simp ↓] theorem asItems_tup {ds : List D} {ρ : Sl} : asItems (.d (.tup ds)) ρ = ok ds ρ := rfl
@[simp ↓] theorem asItems_own {ds : List D} {ρ : Sl} : asItems (.own ds) ρ = ok ds ρ := rfl
def mItems (w : EM S) : EM (List D) := fun ρ => bindE (w ρ) asItems
theorem tw_items : tw (mItems w) = wItems (tw w) := by
  funext Z ρ R
  simp only [tw, mItems, twE, wItems]
  congr 1
  funext r μ1
  congr 1
  funext d
  unfold asItems
  try dsimp only
  generalize (S.frz d).items = o
  cases o with
  | some ds =>
    refine propext ⟨fun h => ⟨ds, rfl, h⟩, fun ⟨ds', e', h⟩ => ?_⟩
    cases e'
    exact h
  | none => exact propext ⟨fun q => q.elim, fun ⟨ds, e, _⟩ => nomatch e⟩
def mRng (f : List D → (List D → Prop) → Prop) (u : EM (List D)) : EM (List D) := fun ρ => bindE (u ρ) fun ds ρ' => putM (M.lift (f ds)) ρ'
theorem tw_rng {f : List D → (List D → Prop) → Prop} [Mono1 f] : tw (mRng f u) = wRng f (tw u) := by
  funext Z ρ R
  simp only [tw, mRng, twE, tw_putM, lift_m1]; rfl
/-! ### comprehensions -/
/-- what leaves the slots as they are, and raises nothing -/
def quiet {α : Type} (m : ME α) (ρ : Sl) : M α := m.bind fun r => r.1.elim (fun a => (M.one a).req (r.2 = ρ)) fun _ => M.bad
section
variable {α γ : Type} {ρ : Sl} {a : α}
@[simp ↓] theorem quiet_ok : quiet (ok a ρ) ρ = M.one a := by
  show (M.one a).req (ρ = ρ) = M.one a
  rw [req_of rfl]
@[simp ↓] theorem quiet_bind {m : M γ} {f : γ → ME α} : quiet (m.bind f) ρ = m.bind fun x => quiet (f x) ρ := rfl
@[simp ↓] theorem quiet_req {m : ME α} {p : Prop} : quiet (m.req p) ρ = (quiet m ρ).req p := rfl
end
/-- all items of all turns -/
def lcAll {α : Type} (step : α → M (List D)) : List α → M (List D)
  | [] => M.one []
  | d :: ds => (step d).bind fun ys => (lcAll step ds).bind fun zs => M.one (ys ++ zs)
def lcT (f : TgF) (t : EM Bool) (e : EM S) (ρ : Sl) (d : D) : M (List D) := (M.lift (f d)).bind fun l => (quiet (t (storesS ρ l)) (storesS ρ l)).bind fun b =>
  if b = true then (quiet (e (storesS ρ l)) (storesS ρ l)).bind fun y => M.one [y.frz] else M.one []
def noOwnB (ρ : Sl) (vs : List Nat) : Bool := vs.all fun i => match ρ[i]? with
  | some (some d) => !d.isOwn
  | _ => true
def mLc (wi : EM (List D)) (f : TgF) (t : EM Bool) (e : EM S) (vs : List Nat) : EM S := fun ρ => bindE (wi ρ) fun ds ρ1 => ((lcAll (lcT f t e (wipeS ρ1 vs)) ds).bind fun acc => ok (.own acc) ρ1).req (noOwnB ρ1 vs = true ∧ ds.length ≤ sizeLine)
theorem quiet_wp {α : Type} {m : EM α} {ρ : Sl} {μ : Mem} {P : α → Mem → Prop} : (quiet (m ρ) ρ).wp μ P = tw m noZ ⟨ρ, μ⟩ fun a ρ' => ρ'.sl = ρ ∧ P a ρ'.mm := by
  unfold quiet tw
  rw [wp_bind]
  congr 1
  funext ⟨r, ρ'⟩ μ'
  cases r <;> rfl
theorem lcL_of {f : TgF} [Mono1 f] {e : EM S} {ρ : Sl} {R : List D → Mem → Prop} : ∀ {ds acc : List D} {μ : Mem}, acc.length + ds.length ≤ sizeLine → (lcAll (lcT f t e ρ) ds).wp μ (fun zs μ => R (acc ++ zs) μ) → wLcL f (tw t) (tw e) ρ R ds acc μ
  | [], acc, μ, _, h => by
    have h : R (acc ++ []) μ := h
    rw [List.append_nil] at h
    exact h
  | d :: ds, acc, μ, hl, h => by
    rw [lcAll, wp_bind, lcT, wp_bind, lift_m1] at h
    refine Mono1.mono (fun l hl' => ?_) h
    rw [wp_bind, quiet_wp] at hl'
    rw [storesR_eq]
    refine (t _).mono (fun r μ1 hr => ?_) hl'
    obtain ⟨r, ρ'⟩ := r
    cases r with
    | x e => exact hr
    | v b =>
      obtain ⟨e1, hr⟩ := hr
      have e1 : ρ' = storesS ρ l := e1
      subst e1
      refine ⟨rfl, ?_⟩
      rw [List.length_cons] at hl
      cases b with
      | false =>
        simp only [Bool.false_eq_true, if_false] at hr ⊢
        rw [wp_one] at hr
        refine lcL_of (by omega) ?_
        rw [wp_bind] at hr
        exact (lcAll _ ds).mono (fun zs μ hz => by simpa using hz) hr
      | true =>
        simp only [if_true] at hr ⊢
        rw [wp_bind, quiet_wp] at hr
        refine (e _).mono (fun r2 μ2 hr2 => ?_) hr
        obtain ⟨r2, ρ2⟩ := r2
        cases r2 with
        | x e => exact hr2
        | v y =>
          obtain ⟨e2, hr2⟩ := hr2
          rw [wp_one, wp_bind] at hr2
          refine ⟨e2, by omega, lcL_of (by rw [List.length_append, List.length_singleton]; omega) ?_⟩
          exact (lcAll _ ds).mono (fun zs μ hz => by simpa using hz) hr2
theorem noOwn_ofS {ρ : Rho} {vs : List Nat} (h : noOwnB ρ.sl vs = true) : NoOwn ρ vs := fun i hi d e => by
  have := List.all_eq_true.mp h i hi
  rw [e] at this
  simpa using this
theorem tw_lc {f : TgF} [Mono1 f] {e : EM S} {vs : List Nat} {Z : ZK} {ρ : Rho} {R : S → Rho → Prop} (h : tw (mLc wi f t e vs) Z ρ R) : wLc (tw wi) f (tw t) (tw e) vs Z ρ R := by
  simp only [tw, mLc, twE, wp_req, wp_bind] at h
  refine (wi ρ.sl).mono (fun r μ hr => ?_) h
  obtain ⟨r, ρ1⟩ := r
  cases r with
  | x e => exact hr
  | v ds =>
    refine ⟨noOwn_ofS hr.1.1, ?_⟩
    rw [wipeR_eq]
    exact lcL_of (by simpa using hr.1.2) hr.2
/-! ### two fors: the cells stay -/
section
variable {α γ : Type} {ρ : Sl} {a : α}
end
section
variable {α γ : Type} {a : α}
end
end
end DL


/-! ML4: loops that forget what is not asked any more. -/
namespace DL
open PySem PySem.Spec L2
theorem Ok.drops {K : PySem.W.Frag} {G : Gx} {σ : L2.St} {ρ : Rho} {W : Wd} {H : Hp} (ok : Ok K G W ρ σ H) : ∀ vs : List Nat, Ok K G W (wipeR ρ vs) σ H
  | [] => ok
  | v :: vs => (ok.drops vs).drop v
def loopEnd (vs : List Nat) (m : MS) : MS := m.bind fun r => match r.1 with
  | .nx => nx (wipeS r.2 vs)
  | .ct => nx (wipeS r.2 vs)
  | .bk => bk (wipeS r.2 vs)
  | .rt s => rt s
  | .ex e => ex e r.2
def bindL (m : MS) (k : Sl → MS) : MS := m.bind fun r => match r.1 with
  | .nx => k r.2
  | .bk => nx r.2
  | .ct => M.bad
  | .rt s => rt s
  | .ex e => ex e r.2
def turn (f : TgF) (b : SM) (vs : List Nat) (d : D) (ρ : Sl) : MS := (M.lift (f d)).bind fun l => loopEnd vs (b (storesS ρ l))
def forL {α : Type} (step : α → Sl → MS) : List α → Sl → MS
  | [], ρ => nx ρ
  | d :: ds, ρ => bindL (step d ρ) (forL step ds)
def mFor (wi : EM (List D)) (f : TgF) (b : SM) (vs : List Nat) : SM := fun ρ => bindES (wi ρ) fun ds ρ1 => forL (turn f b vs) ds (wipeS ρ1 vs)
def mWhileN (t : EM Bool) (b : SM) (vs : List Nat) : Nat → Sl → MS
  | 0, _ => M.bad
  | n + 1, ρ => bindES (t ρ) fun c ρ1 => if c = true then bindL (loopEnd vs (b ρ1)) (mWhileN t b vs n) else nx ρ1
theorem M.ex_mono {α : Type} {F : Nat → M α} {μ : Mem} {P Q : α → Mem → Prop} (h : ∀ a μ, P a μ → Q a μ) : (∃ n, (F n).wp μ P) → ∃ n, (F n).wp μ Q := fun ⟨n, q⟩ => ⟨n, (F n).mono h q⟩
def mWhile (t : EM Bool) (b : SM) (vs : List Nat) : SM := fun ρ => ⟨fun μ P => ∃ n, (mWhileN t b vs n (wipeS ρ vs)).wp μ P, M.ex_mono⟩
section
variable {E : DEnds} {f : TgF} {b : SM} {vs : List Nat} {t : EM Bool}
def wForV (f : TgF) (b : WS) (vs : List Nat) (E : DEnds) : List D → Rho → Prop
  | [] => fun ρ => E.nx ρ
  | d :: ds => fun ρ => f d fun l => b { E with nx := fun ρ' => wForV f b vs E ds (wipeR ρ' vs), ct := fun ρ' => wForV f b vs E ds (wipeR ρ' vs), bk := fun ρ' => E.nx (wipeR ρ' vs) } (storesR ρ l)
def wWhileV (t : WT) (b : WS) (vs : List Nat) (E : DEnds) : Nat → Rho → Prop
  | 0 => fun _ => False
  | n + 1 => fun ρ => t E.ex ρ fun c ρ1 => if c = true then b { E with nx := fun ρ' => wWhileV t b vs E n (wipeR ρ' vs), ct := fun ρ' => wWhileV t b vs E n (wipeR ρ' vs), bk := fun ρ' => E.nx (wipeR ρ' vs) } ρ1 else E.nx ρ1
theorem wp_loop {m : MS} {k : Sl → MS} {μ : Mem} : (bindL (loopEnd vs m) k).wp μ (flC E) = m.wp μ (flC { E with nx := fun ρ' => (k (wipeR ρ' vs).sl).wp ρ'.mm (flC E), ct := fun ρ' => (k (wipeR ρ' vs).sl).wp ρ'.mm (flC E), bk := fun ρ' => E.nx (wipeR ρ' vs) }) := by
  unfold bindL loopEnd
  simp only [wp_bind]
  congr 1
  funext ⟨r, ρ⟩ μ1
  cases r <;> simp only [flC, wipeR_eq] <;> rfl
theorem forL_wp [Mono1 f] : ∀ {ds : List D} {ρ : Sl} {μ : Mem}, (forL (turn f b vs) ds ρ).wp μ (flC E) = wForV f (ts b) vs E ds ⟨ρ, μ⟩
  | [], ρ, μ => rfl
  | d :: ds, ρ, μ => by
    have e : forL (turn f b vs) (d :: ds) ρ = (M.lift (f d)).bind fun l => bindL (loopEnd vs (b (storesS ρ l))) (forL (turn f b vs) ds) := rfl
    rw [e, wp_bind, lift_m1, wForV]
    simp only [wp_loop, forL_wp, storesR_eq, Rho.eq4]; rfl
theorem whileN_wp : ∀ {n : Nat} {ρ : Sl} {μ : Mem}, (mWhileN t b vs n ρ).wp μ (flC E) = wWhileV (tw t) (ts b) vs E n ⟨ρ, μ⟩
  | 0, ρ, μ => rfl
  | n + 1, ρ, μ => by
    rw [mWhileN, twS, wWhileV]
    simp only [wp_ite, wp_loop, whileN_wp, Rho.eq4]; rfl
end
section
variable {X : Cx} {G : Gx} {T : WX} {pos : Pos}
theorem ds_whileV {c : Expr} {body : List Stmt} {t : WT} {u : WS} (vs : List Nat) (hp : PassesOwn (model X.prog X.w) X.A X.env X.xe) (hc : DT X G T c t) (hb : DSs X G T body u) : DS X G T (.While c body [] pos) (fun E ρ => ∃ n, wWhileV t u vs E n (wipeR ρ vs)) :=
  ps_weak (ps_while hp hc hb) fun D σ H ⟨W, ρ, E, ok, ⟨n, h⟩, hn, hr, hb, hc, hx⟩ => by
    refine ⟨fun m σ' H' => ∃ W' ρ', Ok X.K G W' ρ' σ' H' ∧ wWhileV t u vs E m ρ' ∧ Le W H W' H', ⟨n, W, _, ok.drops vs, h, .refl _ _⟩, fun m σ' H' ⟨W', ρ', ok', h', l⟩ => ?_⟩
    cases m with
    | zero => exact h'.elim
    | succ m =>
      refine lT_then ok' h' ((hx.le l).z σ' ρ') fun c ρ1 W1 H1 hh g => ?_
      have l1 := l.trans g.stp.le
      cases c with
      | false => exact hn ρ1 W1 σ' H1 hh g.ok l1
      | true =>
        refine ⟨fun σ2 H2 => ∃ W' ρ', Ok X.K G W' ρ' σ2 H2 ∧ wWhileV t u vs E m ρ' ∧ Le W H W' H2, fun σ2 H2 q => ⟨m, Nat.lt_succ_self m, q⟩, ?_⟩
        have hN : lN X.K G (fun ρ' => wWhileV t u vs E m (wipeR ρ' vs)) (fun σ2 H2 => ∃ W' ρ', Ok X.K G W' ρ' σ2 H2 ∧ wWhileV t u vs E m ρ' ∧ Le W H W' H2) W H := fun ρ2 W2 σ2 H2 q o l => ⟨W2, _, o.drops vs, q, l⟩
        exact lS_on (E := { E with nx := fun ρ' => wWhileV t u vs E m (wipeR ρ' vs), ct := fun ρ' => wWhileV t u vs E m (wipeR ρ' vs), bk := fun ρ' => E.nx (wipeR ρ' vs) }) g.ok l1 hh hN hr (fun ρ2 W2 σ2 H2 q o l => hn _ W2 σ2 H2 q (o.drops vs) l) hN hx
theorem ds_forV {tg iter : Expr} {body : List Stmt} {wi : WI} {f : TgF} {g : TG} {u : WS} (vs : List Nat) (hp : PassesOwn (model X.prog X.w) X.A X.env X.xe) (hi : DI X G T tg iter wi) (hg : TgtL X tg f g) (hb : DSs X G T body u) (hc : X.calm = true)
    (hs : ∀ x, foldedSetIterable iter X.env x = pure x) : DS X G T (.For tg iter body [] pos) (fun E ρ => wi E.ex ρ fun ds ρ1 => wForV f u vs E ds (wipeR ρ1 vs)) :=
  ps_weak (ps_for hp hc hi hg.1 hb hs) fun D σ H ⟨W, ρ, E, ok, h, hn, hr, hbk, hct, hx⟩ => by
    refine ⟨W, ρ, _, E.ex, ok, h, fun ds ρ1 W1 H1 J h1 g1 it => ?_, hx.z σ ρ⟩
    refine ⟨fun i m σ' H' => ∃ W' ρ', Ok X.K G W' ρ' σ' H' ∧ wForV f u vs E (ds.drop i) ρ' ∧ Le W1 H1 W' H' ∧ m = ds.length - i ∧ i ≤ ds.length, ⟨ds.length, W1, _, g1.ok.drops vs, h1, .refl _ _, rfl, Nat.zero_le _⟩, ?_⟩
    rintro i m σ' H' ⟨W', ρ', ok', h', l, rfl, hle⟩
    obtain ⟨q1, q2⟩ := it i W' H' l ok'.al
    have l0 := g1.stp.le.trans l
    by_cases hi : i < ds.length
    · obtain ⟨d, hd⟩ : ∃ d, ds[i]? = some d := ⟨ds[i], List.getElem?_eq_getElem hi⟩
      obtain ⟨go, yl⟩ := q2 d hd
      rw [List.drop_eq_getElem_cons hi] at h'
      have ed : ds[i] = d := by rw [List.getElem?_eq_getElem hi] at hd; exact Option.some.inj hd
      rw [ed] at h'
      have hN : lN X.K G (fun ρ' => wForV f u vs E (ds.drop (i + 1)) (wipeR ρ' vs)) (fun σ2 H2 => ∃ W2 ρ2, Ok X.K G W2 ρ2 σ2 H2 ∧ wForV f u vs E (ds.drop (i + 1)) ρ2 ∧ Le W1 H1 W2 H2) W' H' := fun ρ2 W2 σ2 H2 q o l2 => ⟨W2, _, o.drops vs, q, l.trans l2⟩
      refine .inr ⟨go, fun σ2 H2 => ∃ W2 ρ2, Ok X.K G W2 ρ2 σ2 H2 ∧ wForV f u vs E (ds.drop (i + 1)) ρ2 ∧ Le W1 H1 W2 H2, ?_, fun x H2 hy => ?_⟩
      · rintro σ2 H2 ⟨W2, ρ2, o, q, l2⟩
        exact ⟨ds.length - (i + 1), by omega, W2, ρ2, o, q, l2, rfl, by omega⟩
      · obtain ⟨W2, st, al2, ⟨ec, kc⟩, hd2⟩ := yl x H2 hy
        have g2 := ok'.grow0 st al2 ec kc
        refine hg.2 W2 H2 x d σ' _ _ hd2 h' fun lst xs hl da => ?_
        have hnd : lN X.K G (fun ρ' => E.nx (wipeR ρ' vs)) D.nx W' H' := fun ρ2 W2 σ2 H2 q o l2 => hn _ W2 σ2 H2 q (o.drops vs) (l0.trans l2)
        exact lS_on (E := { E with nx := fun ρ' => wForV f u vs E (ds.drop (i + 1)) (wipeR ρ' vs), ct := fun ρ' => wForV f u vs E (ds.drop (i + 1)) (wipeR ρ' vs), bk := fun ρ' => E.nx (wipeR ρ' vs) }) (g2.ok.stores da) g2.stp.le hl hN (hr.le l0) hnd hN (hx.le l0)
    · have e : i = ds.length := by omega
      subst e
      rw [List.drop_length] at h'
      exact .inl ⟨q1 (Nat.le_refl _), hn ρ' W' σ' H' h' ok' l0⟩
theorem qs_while {c : Expr} {body : List Stmt} {t : EM Bool} {u : SM} (vs : List Nat) (hp : PassesOwn (model X.prog X.w) X.A X.env X.xe) (hc : QT X G T c t) (hb : QSs X G T body u) : QS X G T (.While c body [] pos) (mWhile t u vs) := by
  have e : ts (mWhile t u vs) = fun E ρ => ∃ n, wWhileV (tw t) (ts u) vs E n (wipeR ρ vs) := by
    funext E ρ
    simp only [ts, mWhile, whileN_wp, Rho.eq4]
  unfold QS
  rw [e]
  exact ds_whileV vs hp hc hb
theorem qs_for {tg iter : Expr} {body : List Stmt} {wi : EM (List D)} {f : TgF} {g : TG} {u : SM} [Mono1 f] (vs : List Nat) (hp : PassesOwn (model X.prog X.w) X.A X.env X.xe) (hi : QI X G T tg iter wi) (hg : TgtL X tg f g) (hb : QSs X G T body u) (hc : X.calm = true := by rfl)
    (hs : ∀ x, foldedSetIterable iter X.env x = pure x := by intro _; rfl) : QS X G T (.For tg iter body [] pos) (mFor wi f u vs) := by
  have e : ts (mFor wi f u vs) = fun E ρ => (tw wi) E.ex ρ fun ds ρ1 => wForV f (ts u) vs E ds (wipeR ρ1 vs) := by
    funext E ρ
    simp only [ts, mFor, twS, forL_wp, Rho.eq4]; rfl
  unfold QS
  rw [e]
  exact ds_forV vs hp hi hg hb hc hs
/-! ### comprehensions of two fors -/
end
end DL


/-! ML5: the rules (printed by mkml5.py). -/
namespace DL
open PySem PySem.Spec L2
theorem lS_mono {K : PySem.W.Frag} {G : Gx} {T : WX} {w w' : WS} (i : ∀ E ρ, w' E ρ → w E ρ) {D : Ends} {σ : L2.St} {H : Hp} (h : lS K G T w' D σ H) : lS K G T w D σ H := by
  obtain ⟨W, ρ, E, ok, h, r⟩ := h
  exact ⟨W, ρ, E, ok, i _ _ h, r⟩
theorem ds_mono {X : Cx} {G : Gx} {T : WX} {st : Stmt} {w w' : WS} (h : DS X G T st w) (i : ∀ E ρ, w' E ρ → w E ρ) : DS X G T st w' := ps_weak h fun D σ H q => lS_mono i q
def mYes : EM Bool := fun ρ => ok true ρ
section
variable {X : Cx} {G : Gx} {T : WX} {a b c e : Expr} {w wa wb wc wk wd : EM S} {u v : SM} {t t1 : EM Bool} {pos p p2 apos cpos tpos : Pos} {st : Stmt} {rest : List Stmt} {i : Nat} {x : Str}
theorem qts_nil : QTs X G T [] mYes := dts_nil
theorem qe_ix (ha : QE X G T a wa) (hb : QE X G T b wb) (hs : PlainIx b := by intro _ _; rfl) : QE X G T (.Subscript a b pos) (mBin fIx wa wb) := by
  unfold QE; rw [tw_bin]
  exact pe_weak (pe_ix ix_seq ha hb hs) fun _ _ _ h => lE_bin (od_mc od_ix) h
theorem fRev_mono {d : D} {R R' : S → Prop} (h : ∀ a, R a → R' a) (f : fRev d R) : fRev d R' := by
  cases d <;> first | exact h _ f | exact f.elim
theorem qe_rev {k : Nat} {p1 p3 : Pos} (he : QE X G T e w) : QE X G T (.Subscript e (.Slice none none (some (.UnaryOp .USub (.Constant (.int 1) k p1) p2)) p3) pos) (mUn fRev w) := by
  unfold QE; rw [tw_un]
  refine de_mono (de_rev he) fun Z ρ R h => ?_
  have e : mc1 fRev = fRev := by
    funext d R
    exact mcl_mono fun _ _ h q => fRev_mono h q
  rw [e] at h
  exact h
theorem qs_expr (he : QE X G T e w) (hs : swapsWith e none pos.line X.env = pure false := by rfl) : QS X G T (.Expr e pos) (mDrop w) := by unfold QS; rw [ts_drop]; exact ds_expr he hs
theorem qs_ret (he : QE X G T e w) : QS X G T (.Return (some e) pos) (mRet w) := by unfold QS; rw [ts_ret]; exact ds_ret he
theorem qs_if {c : Expr} {a b : List Stmt} (hc : QT X G T c t) (ha : QSs X G T a u) (hb : QSs X G T b v) : QS X G T (.If c a b pos) (mIf t u v) := by unfold QS; rw [ts_if]; exact ds_if hc ha hb
theorem qs_set {i : Nat} {x : Str} {pos' : Pos} (hN : X.N.Nodup) (he : QE X G T e w) (hi : X.N[i]? = some x := by rfl) (hx : Loc X.env.scope x := by first | exact .inl rfl | exact .inr rfl) (hs : swapsWith e (some (.Name x pos')) pos.line X.env = pure false := by rfl) (hf : X.fn x = true ∨ X.env.scope.names.lookup x = some .local := by first | exact .inr rfl | exact .inl rfl | assumption) :
    QS X G T (.Assign [.Name x pos'] e pos) (mSet i w) := by unfold QS; rw [ts_set]; exact ds_set hN he hi hx hs hf
theorem qs_par {i j : Nat} {x y : Str} {px py pt : Pos} {kt k2 pt2} (hN : X.N.Nodup) (ha : QE X G T a wa) (hb : QE X G T b wb) (hc : X.calm = true := by rfl) (hi : X.N[i]? = some x := by rfl) (hj : X.N[j]? = some y := by rfl) (hij : i ≠ j := by decide)
    (hx : X.env.scope.names.lookup x = some .local := by rfl) (hy : X.env.scope.names.lookup y = some .local := by rfl)
    (hw : swappedStores [.Tuple [.Name x px, .Name y py] kt pt] (.Tuple [a, b] k2 pt2) X.env = pure (some [x, y]) := by rfl)
    (hs : swapsWithSole [.Tuple [.Name x px, .Name y py] kt pt] (.Tuple [a, b] k2 pt2) pos.line X.env = pure false := by rfl)
    (hsa : starEach (a :: [b]) X.env = (false, eval a X.env) :: starEach [b] X.env := by rfl) (hsb : starEach [b] X.env = (false, eval b X.env) :: starEach [] X.env := by rfl) :
    QS X G T (.Assign [.Tuple [.Name x px, .Name y py] kt pt] (.Tuple [a, b] k2 pt2) pos) (mPar i j wa wb) := by unfold QS; rw [ts_par]; exact ds_par hN ha hb hc hi hj hij hx hy hw hs hsa hsb
theorem qs_asgN {tg : Expr} {f : D → (List (Nat × D) → Prop) → Prop} {g : TG} [Mono1 f] (he : QE X G T e w) (hg : TgtL X tg f g) (hs : swapsWithSole [tg] e pos.line X.env = pure false := by rfl) (hw : swappedStores [tg] e X.env = pure none := by rfl)
    (h1 : (assignEach [tg] X.env).map (·.2) = [assign tg X.env] := by rfl) : QS X G T (.Assign [tg] e pos) (mAsgN f w) := by unfold QS; rw [ts_asgN]; exact ds_asgN he hg hs hw h1
theorem qs_app (i : Nat) (he : QE X G T e w) (hN : X.N[i]? = some x := by rfl) (hv : Vis X.env.scope x := by first | exact Or.inl rfl | exact Or.inr (Or.inl rfl) | exact Or.inr (Or.inr rfl)) (hd : (x == ("__debug__" : Str)) = false := by decide) (hcd : (x == ("__classdict__" : Str)) = false := by decide)
    (hst : starEach [e] X.env = (false, eval e X.env) :: starEach [] X.env := by rfl)
    (hbase : attributeBase (.Name x p) "append" X.env (eval (.Name x p) X.env) = eval (.Name x p) X.env := by rfl)
    (hfew : ((backTo cpos (starEach (e :: []) X.env)).all (fun x => !x.1) && (backToKw cpos (keywordEach [] X.env)).all (fun x => x.1.isSome) && decide ((e :: []).length + ([] : List Keyword).length + (if ([] : List Keyword).isEmpty then 0 else 1) < 30)) = true := by rfl)
    (hline : (apos.endLine == cpos.line) = true := by rfl) (hs : swapsWith (.Call (.Attribute (.Name x p) "append" apos) [e] [] cpos) none pos.line X.env = pure false := by rfl) :
    QS X G T (.Expr (.Call (.Attribute (.Name x p) "append" apos) [e] [] cpos) pos) (mApp i w) := by unfold QS; rw [ts_app]; exact ds_app i he hN hv hd hcd hst hbase hfew hline hs
theorem qs_setIx (i : Nat) {x : Str} {idx : Expr} {wk : EM S} {tpos : Pos} (he : QE X G T e w) (hk : QE X G T idx wk) (hN : X.N[i]? = some x := by rfl) (hv : Vis X.env.scope x := by first | exact Or.inl rfl | exact Or.inr (Or.inl rfl) | exact Or.inr (Or.inr rfl)) (hd : (x == ("__debug__" : Str)) = false := by decide) (hcd : (x == ("__classdict__" : Str)) = false := by decide)
    (ha : ∀ v, assign (.Subscript (.Name x p) idx tpos) X.env v = (do
      let ov ← holding [v] (eval (.Name x p) X.env)
      let iv ← holding [v, ov] (eval idx X.env)
      standAt tpos
      holding [v, ov, iv] (setItem ov iv v)
      release [v, ov, iv] []) := by intro _; rfl)
    (hs : swapsWithSole [.Subscript (.Name x p) idx tpos] e pos.line X.env = pure false := by rfl) (hw : swappedStores [.Subscript (.Name x p) idx tpos] e X.env = pure none := by rfl)
    (h1 : (assignEach [.Subscript (.Name x p) idx tpos] X.env).map (·.2) = [assign (.Subscript (.Name x p) idx tpos) X.env] := by rfl) :
    QS X G T (.Assign [.Subscript (.Name x p) idx tpos] e pos) (mSetIx i wk w) := by unfold QS; rw [ts_setIx]; exact ds_setIx i he hk hN hv hd hcd ha hs hw h1
theorem qs_dput (i : Nat) {x : Str} {idx : Expr} {tpos : Pos} (hu : X.A.units + 1 < cLine) (he : QE X G T e w) (hk : QE X G T idx wk) (hN : X.N[i]? = some x := by rfl) (hv : Vis X.env.scope x := by first | exact Or.inl rfl | exact Or.inr (Or.inl rfl) | exact Or.inr (Or.inr rfl)) (hd : (x == ("__debug__" : Str)) = false := by decide) (hcd : (x == ("__classdict__" : Str)) = false := by decide)
    (hs : swapsWith e (some (.Subscript (.Name x p) idx tpos)) pos.line X.env = pure false := by rfl) :
    QS X G T (.Assign [.Subscript (.Name x p) idx tpos] e pos) (mDput i wk w) := by unfold QS; rw [ts_dput]; exact ds_dput i hu he hk hN hv hd hcd hs
theorem qs_asgJ (i j : Nat) {k : Int} {x y : Str} {idx : Expr} {py pt : Pos} {kt : Nat} (he : QE X G T e w) (hk : PE X idx fun _ H Q => Q (.int k) H) (hNd : X.N.Nodup) (hN : X.N[i]? = some x := by rfl) (hj : X.N[j]? = some y := by rfl) (hv : Vis X.env.scope x := by first | exact Or.inl rfl | exact Or.inr (Or.inl rfl) | exact Or.inr (Or.inr rfl)) (hd : (x == ("__debug__" : Str)) = false := by decide) (hcd : (x == ("__classdict__" : Str)) = false := by decide)
    (hx : Loc X.env.scope y := by first | exact .inl rfl | exact .inr rfl) (hf : X.fn y = true ∨ X.env.scope.names.lookup y = some .local := by first | exact .inr rfl | exact .inl rfl | assumption)
    (ha : ∀ v, assign (.Subscript (.Name x p) idx tpos) X.env v = (do
      let ov ← holding [v] (eval (.Name x p) X.env)
      let iv ← holding [v, ov] (eval idx X.env)
      standAt tpos
      holding [v, ov, iv] (setItem ov iv v)
      release [v, ov, iv] []) := by intro _; rfl)
    (hc : X.calm = true := by rfl) (hn : (assignEach [.Subscript (.Name x p) idx tpos, .Name y py] X.env).length = 2 := by rfl) (hst : (assignEach [.Subscript (.Name x p) idx tpos, .Name y py] X.env).findIdx? (·.1) = none := by rfl)
    (hs1 : (assignEach [.Subscript (.Name x p) idx tpos, .Name y py] X.env).map (·.2) = assign (.Subscript (.Name x p) idx tpos) X.env :: (assignEach [.Name y py] X.env).map (·.2) := by rfl) (hs2 : (assignEach [.Name y py] X.env).map (·.2) = assign (.Name y py) X.env :: (assignEach [] X.env).map (·.2) := by rfl)
    (hs : swapsWithSole [.Tuple [.Subscript (.Name x p) idx tpos, .Name y py] kt pt] e pos.line X.env = pure false := by rfl) (hw : swappedStores [.Tuple [.Subscript (.Name x p) idx tpos, .Name y py] kt pt] e X.env = pure none := by rfl)
    (h1 : (assignEach [.Tuple [.Subscript (.Name x p) idx tpos, .Name y py] kt pt] X.env).map (·.2) = [assign (.Tuple [.Subscript (.Name x p) idx tpos, .Name y py] kt pt) X.env] := by rfl) :
    QS X G T (.Assign [.Tuple [.Subscript (.Name x p) idx tpos, .Name y py] kt pt] e pos) (mAsgJ i j k w) := by unfold QS; rw [ts_asgJ]; exact ds_asgJ i j he hk hNd hN hj hv hd hcd hx hf ha hc hn hst hs1 hs2 hs hw h1
theorem qss_nil : QSs X G T [] mNext := by unfold QSs; rw [ts_next]; exact dss_nil 
theorem qss_cons (h1 : QS X G T st u) (h2 : QSs X G T rest v) : QSs X G T (st :: rest) (mSeq u v) := by unfold QSs; rw [ts_seq]; exact dss_cons h1 h2
theorem qss_one (h1 : QS X G T st u) : QSs X G T [st] u := by unfold QSs; exact dss_one h1
theorem qi_seq {tg : Expr} (he : QE X G T e w) : QI X G T tg e (mItems w) := by unfold QI; rw [tw_items]; exact di_seq he
theorem qi_range1 {tg : Expr} {ta : EM (List D)} (ha : QA X G T [a] ta) (hg : Gl X "range") (hm : X.mg "range" = none) (hs : starEach [a] X.env = [(false, eval a X.env)] := by rfl) : QI X G T tg (.Call (.Name "range" p) [a] [] pos) (mRng rg1 ta) := by unfold QI; rw [tw_rng]; exact di_range1 ha hg hm hs
theorem qi_range2 {tg : Expr} {ta : EM (List D)} (ha : QA X G T [a, b] ta) (hg : Gl X "range") (hm : X.mg "range" = none) (hs : starEach [a, b] X.env = [(false, eval a X.env), (false, eval b X.env)] := by rfl) (hs2 : starEach [b] X.env = [(false, eval b X.env)] := by rfl) : QI X G T tg (.Call (.Name "range" p) [a, b] [] pos) (mRng rg2 ta) := by unfold QI; rw [tw_rng]; exact di_range2 ha hg hm hs hs2
theorem qe_ixV (i : Nat) {x : Str} (hb : QE X G T b wb) (hN : X.N[i]? = some x := by rfl) (hv : Vis X.env.scope x := by first | exact Or.inl rfl | exact Or.inr (Or.inl rfl) | exact Or.inr (Or.inr rfl)) (hd : (x == ("__debug__" : Str)) = false := by decide)
    (hcd : (x == ("__classdict__" : Str)) = false := by decide) (hs : PlainIx b := by intro _ _; rfl) : QE X G T (.Subscript (.Name x p) b pos) (mIxV i wb) := by unfold QE; rw [tw_ixV]; exact de_ixV i hb hN hv hd hcd hs
theorem qe_sl {lo hi : Option Expr} {wl wh : EM (Option Int)} (he : QE X G T e w) (hl : QO X G T lo wl) (hu : QO X G T hi wh) : QE X G T (.Subscript e (.Slice lo hi none p2) pos) (mSl w wl wh) := by unfold QE; rw [tw_sl]; exact de_sl he hl hu
theorem qe_dget (i : Nat) {x : Str} (hu : X.A.units + 1 < cLine) (hb : QE X G T b wk) (hN : X.N[i]? = some x := by rfl) (hv : Vis X.env.scope x := by first | exact Or.inl rfl | exact Or.inr (Or.inl rfl) | exact Or.inr (Or.inr rfl)) (hd : (x == ("__debug__" : Str)) = false := by decide)
    (hcd : (x == ("__classdict__" : Str)) = false := by decide) (hs : NoSl b := by intro _ _; rfl) : QE X G T (.Subscript (.Name x p) b pos) (mDget i wk) := by unfold QE; rw [tw_dget]; exact de_dget i hu hb hN hv hd hcd hs
theorem qe_dic0 : QE X G T (.Dict [] [] pos) mDic0 := by unfold QE; rw [tw_dic0]; exact de_dic0 
theorem qo_none : QO X G T none mNoP := by unfold QO; rw [tw_noP]; exact do_none 
theorem qo_some (h : QE X G T e w) : QO X G T (some e) (mPart w) := by unfold QO; rw [tw_part]; exact do_some h
theorem qts_one (h : QT X G T e t) : QTs X G T [e] t := by unfold QTs; exact dts_one h
theorem qe_lc {elt tg iter : Expr} {ifs : List Expr} {scope : Scope} {own : List (Str × Nat)} {wi : EM (List D)} {f : TgF} {g : TG} [Mono1 f] {te : EM S} (hN : X.N.Nodup) (hi : QI X G T tg iter wi) (ok : BlkOk X.N X.env.scope scope own)
    (hg : ∀ (s : Shared) (H : Hp) (C : Addr) (cl : List (Str × Addr)) (fp : List Addr), TgtL (X.blk s H scope (compEnvC scope cl C X.env) fp) tg f g) (hin : TgIn f (own.map (·.2)))
    (ht : ∀ (s : Shared) (H : Hp) (C : Addr) (cl : List (Str × Addr)) (fp : List Addr), QTs (X.blk s H scope (compEnvC scope cl C X.env) fp) G noT ifs t)
    (he : ∀ (s : Shared) (H : Hp) (C : Addr) (cl : List (Str × Addr)) (fp : List Addr), QE (X.blk s H scope (compEnvC scope cl C X.env) fp) G noT elt te) (hc : X.calm = true := by rfl) (hs : ∀ x, foldedSetIterable iter X.env x = pure x := by intro _; rfl) :
    QE X G T (.ListComp elt [⟨tg, iter, ifs, 0⟩] scope pos) (mLc wi f t te (own.map (·.2))) := de_mono (de_lc hN hi ok hg hin ht he hc hs) fun Z ρ R h => tw_lc h
end
/-! ### defs -/
/-- a def's reading: its body from the arguments -/
def defM (b : SM) (N : List Str) : FM := fun ds => out (b (sl0 N ds))
theorem df_q {P : Program} {w : World} {K : PySem.W.Frag} {mg : Str → Option Value} {base : Heap} {x : Str} {st : Stmt} {N ps : List Str} {k : Nat} {b : SM} {f : FM} (r : Raw K mg x st) (Sc : FnScope N ps (defScope st))
    (hbi : ∀ (kV doc pm : Value) (an : Option Addr) (cdv ct : Value) (us : List Value), us.length = ps.length → bindArgs (PySem.W.fnOf x x (defArgs st) (defBody st) (defScope st) .none kV doc pm an cdv ct) ⟨us, []⟩ = pure (ps.zip us))
    (hf : ∀ ds, ds.length = ps.length → (defM b N ds).le (f ds))
    (hb : ∀ (f : Addr) (cdv : Value) (A : Around) (outer : List PySem.Env) (s : Shared) (H : Hp) (E : XK) (W : Wd), W.g = mg → CxG (cxOf (L2.CX P w) P w K mg base N x (defScope st) f cdv A outer s H E) (fun cls d _ H => E cls d H) k →
      QSs (cxOf (L2.CX P w) P w K mg base N x (defScope st) f cdv A outer s H E) ⟨W, H⟩ (fun cls d _ H => E cls d H) (defBody st) b) : Df P w K mg base (k + 1) x st ps (tf f) :=
  df_of r Sc hbi (fun Z ds μ R hl h => by
    have q := hf ds hl μ _ h
    unfold defM at q
    rw [ts_out] at q
    exact q) hb
theorem Df.jarM {P : Program} {w : World} {K : PySem.W.Frag} {mg : Str → Option Value} {base : Heap} {k : Nat} {x : Str} {st : Stmt} {ps : List Str} {f f' : FM} (F : Df P w K mg base k x st ps (tf f))
    (h : ∀ ds μ P, ds.length = ps.length → (f' ds).wp μ P → (f ds).wp μ fun r μ => ∃ x y z : Int, r = .v (.own [.int x, .int y, .int z]) ∧ (-(2 ^ 40) < y ∧ y < 2 ^ 40) ∧ P (.v (.d .jar)) μ) : Df P w K mg base k x st ps (tf f') :=
  F.jar fun Z ds μ R hl q => (f ds).mono (fun r μ ⟨x, y, z, e, b, hr⟩ => by subst e; exact ⟨x, y, z, rfl, b, hr⟩) (h ds μ _ hl q)
end DL


/-! ML6: equations by which readings are run. -/
namespace DL
open PySem PySem.Spec L2
section
variable {α β γ : Type} {ρ : Sl} {w wa wb wc wk wd : EM S} {u uk : EM (List D)} {t t1 : EM Bool} {v v' : SM} {wl wh : EM (Option Int)} {wi wi1 : EM (List D)} {i j : Nat}
/-! ### only the first part is run -/
/-! ### slots -/
def varM (o : Option (Option S)) (i : Nat) (ρ : Sl) : ME S := match o with
  | some (some d) => ok (.d d.frz) (if d.isOwn = true then ρ.set i (some (.d d.frz)) else ρ)
  | _ => M.bad
@[simp ↓] theorem m_var : mVar i ρ = varM ρ[i]? i ρ := by
  unfold mVar varM
  generalize ρ[i]? = o
  rcases o with _ | _ | s <;> rfl
@[simp ↓] theorem varM_d {d : D} : varM (some (some (.d d))) i ρ = ok (.d d) ρ := rfl
@[simp ↓] theorem varM_own {d : List D} : varM (some (some (.own d))) i ρ = ok (.d (.lst d)) (ρ.set i (some (.d (.lst d)))) := rfl
@[simp ↓] theorem varM_odic {d : List (Key × D)} : varM (some (some (.odic d))) i ρ = ok (.d (.dic d)) (ρ.set i (some (.d (.dic d)))) := rfl
@[simp ↓] theorem m_c {d : D} : mC d ρ = ok (.d d) ρ := rfl
@[simp ↓] theorem m_bin {f : D → D → (S → Prop) → Prop} : mBin f wa wb ρ = bindE (wa ρ) fun x ρ1 => bindE (wb ρ1) fun y ρ2 => putM (M.lift (f x.frz y.frz)) ρ2 := rfl
@[simp ↓] theorem m_un {f : D → (S → Prop) → Prop} : mUn f wa ρ = bindE (wa ρ) fun x ρ1 => putM (M.lift (f x.frz)) ρ1 := rfl
@[simp ↓] theorem m_b : mB w ρ = bindE (w ρ) asB := rfl
@[simp ↓] theorem m_chain {f f' : D → D → (S → Prop) → Prop} : mChain f f' wa wb wc ρ = bindE (wa ρ) fun x ρ1 => bindE (wb ρ1) fun y ρ2 => bindE (putM (M.lift (f x.frz y.frz)) ρ2) fun z ρ2 => bindE (asB z ρ2) fun k ρ2 =>
  if k = true then bindE (wc ρ2) fun u ρ3 => putM (M.lift (f' y.frz u.frz)) ρ3 else ok (.d (.bl false)) ρ2 := rfl
@[simp ↓] theorem m_and : mAnd t t1 ρ = bindE (t ρ) fun c ρ1 => if c = true then t1 ρ1 else ok false ρ1 := rfl
@[simp ↓] theorem m_or : mOr t t1 ρ = bindE (t ρ) fun c ρ1 => if c = true then ok true ρ1 else t1 ρ1 := rfl
@[simp ↓] theorem m_not : mNot t ρ = bindE (t ρ) fun c ρ1 => ok (!c) ρ1 := rfl
@[simp ↓] theorem m_andV : mAndV wa wb ρ = bindE (wa ρ) fun x ρ1 => bindE (asB x ρ1) fun c ρ1 => if c = true then wb ρ1 else ok (.d (.bl false)) ρ1 := rfl
@[simp ↓] theorem m_orV : mOrV wa wb ρ = bindE (wa ρ) fun x ρ1 => bindE (asB x ρ1) fun c ρ1 => if c = true then ok (.d (.bl true)) ρ1 else wb ρ1 := rfl
@[simp ↓] theorem m_notV : mNotV wa ρ = bindE (wa ρ) fun x ρ1 => bindE (asB x ρ1) fun c ρ1 => ok (.d (.bl (!c))) ρ1 := rfl
@[simp ↓] theorem m_ifE : mIfE t wa wb ρ = bindE (t ρ) fun c ρ1 => if c = true then wa ρ1 else wb ρ1 := rfl
@[simp ↓] theorem m_nil : mNil ρ = ok [] ρ := rfl
@[simp ↓] theorem m_cons : mCons w u ρ = bindE (w ρ) fun x ρ1 => bindE (u ρ1) fun xs ρ2 => ok (x.frz :: xs) ρ2 := rfl
@[simp ↓] theorem m_tup : mTup u ρ = bindE (u ρ) fun ds ρ1 => (ok (.d (.tup ds)) ρ1).req (ds.length ≤ sizeLine) := rfl
@[simp ↓] theorem m_lst : mLst u ρ = bindE (u ρ) fun ds ρ1 => (ok (.own ds) ρ1).req (ds.length ≤ sizeLine) := rfl
@[simp ↓] theorem m_callB {f : List D → (S → Prop) → Prop} : mCallB f u ρ = bindE (u ρ) fun ds ρ1 => putM (M.lift (f ds)) ρ1 := rfl
@[simp ↓] theorem m_call {n : Nat} {f : FM} : mCall n f u ρ = bindE (u ρ) fun ds ρ1 => (put (f ds) ρ1).req (ds.length = n) := rfl
@[simp ↓] theorem m_callK {n n1 n2 : Nat} {is : List Nat} {f : FM} : mCallK n n1 n2 is f u uk ρ = bindE (u ρ) fun ds ρ1 => (bindE (uk ρ1) fun es ρ2 => (put (f (permL .non is (ds ++ es))) ρ2).req (es.length = n2 ∧ (permL .non is (ds ++ es)).length = n ∧ ∀ i ∈ is, i < (ds ++ es).length)).req (ds.length = n1) := rfl
def slotM {β : Type} (o : Option (Option S)) (f : S → M β) : M β := match o with
  | some (some s) => f s
  | _ => M.bad
@[simp ↓] theorem slotM_s {β : Type} {s : S} {f : S → M β} : slotM (some (some s)) f = f s := rfl
@[simp ↓] theorem m_ixV : mIxV i wk ρ = (bindE (wk ρ) fun k ρ1 => slotM ρ1[i]? fun s => putM (M.lift (fIx s.frz k.frz)) ρ1).req (∃ s0, ρ[i]? = some (some s0)) := rfl
@[simp ↓] theorem m_noP : mNoP ρ = ok none ρ := rfl
@[simp ↓] theorem m_part : mPart w ρ = bindE (w ρ) asI := rfl
@[simp ↓] theorem m_sl : mSl w wl wh ρ = bindE (w ρ) fun d ρ1 => bindE (wl ρ1) fun lo ρ2 => bindE (wh ρ2) fun hi ρ3 => putM (M.lift (fSl d.frz lo hi)) ρ3 := rfl
@[simp ↓] theorem m_dget : mDget i wk ρ = (bindE (wk ρ) fun k ρ1 => slotM ρ1[i]? fun s => (M.lift (dGet s.frz k.frz)).bind fun z => ok (.d z) ρ1).req (∃ s0, ρ[i]? = some (some s0)) := rfl
@[simp ↓] theorem m_dic0 : mDic0 ρ = ok (.odic []) ρ := rfl
@[simp ↓] theorem m_items : mItems w ρ = bindE (w ρ) asItems := rfl
@[simp ↓] theorem m_rng {f : List D → (List D → Prop) → Prop} : mRng f u ρ = bindE (u ρ) fun ds ρ' => putM (M.lift (f ds)) ρ' := rfl
@[simp ↓] theorem m_yes : mYes ρ = ok true ρ := rfl
@[simp ↓] theorem m_lc {f : TgF} {vs : List Nat} : mLc wi f t w vs ρ = bindE (wi ρ) fun ds ρ1 => ((lcAll (lcT f t w (wipeS ρ1 vs)) ds).bind fun acc => ok (.own acc) ρ1).req (noOwnB ρ1 vs = true ∧ ds.length ≤ sizeLine) := rfl
/-! ### statements -/
@[simp ↓] theorem m_next : mNext ρ = nx ρ := rfl
@[simp ↓] theorem m_seq : mSeq v v' ρ = bindN (v ρ) v' := rfl
@[simp ↓] theorem m_drop : mDrop w ρ = bindES (w ρ) fun _ ρ' => nx ρ' := rfl
@[simp ↓] theorem m_ret : mRet w ρ = bindES (w ρ) fun s _ => rt s := rfl
@[simp ↓] theorem m_if : mIf t v v' ρ = bindES (t ρ) fun c ρ1 => if c = true then v ρ1 else v' ρ1 := rfl
@[simp ↓] theorem m_set : mSet i w ρ = bindES (w ρ) fun s ρ' => nx (ρ'.set i (some s)) := rfl
@[simp ↓] theorem m_par : mPar i j wa wb ρ = bindES (wa ρ) fun x ρ1 => bindES (wb ρ1) fun y ρ2 => nx ((ρ2.set i (some x)).set j (some y)) := rfl
@[simp ↓] theorem m_asgN {f : TgF} : mAsgN f w ρ = bindES (w ρ) fun d ρ' => (M.lift (f d.frz)).bind fun l => nx (storesS ρ' l) := rfl
def ownM {β : Type} (o : Option (Option S)) (f : List D → M β) : M β := match o with
  | some (some (.own s)) => f s
  | _ => M.bad
@[simp ↓] theorem ownM_s {β : Type} {s : List D} {f : List D → M β} : ownM (some (some (.own s))) f = f s := rfl
@[simp ↓] theorem m_app : mApp i w ρ = (bindES (w ρ) fun d ρ1 => ownM ρ1[i]? fun ds => (nx (ρ1.set i (some (.own (ds ++ [d.frz]))))).req (ds.length < sizeLine)).req (∃ d0, ρ[i]? = some (some (.own d0))) := rfl
@[simp ↓] theorem m_setIx : mSetIx i wk w ρ = bindES (w ρ) fun d ρ1 => (bindES (wk ρ1) fun k ρ2 => slotM ρ2[i]? fun s => (M.lift (sIx s k.frz d.frz)).bind fun s' => nx (if s.isOwn = true then ρ2.set i (some s') else ρ2)).req (∃ s0, ρ1[i]? = some (some s0)) := rfl
def odicM {β : Type} (o : Option (Option S)) (f : List (Key × D) → M β) : M β := match o with
  | some (some (.odic s)) => f s
  | _ => M.bad
@[simp ↓] theorem odicM_s {β : Type} {s : List (Key × D)} {f : List (Key × D) → M β} : odicM (some (some (.odic s))) f = f s := rfl
def keyM {β : Type} (o : Option Key) (f : Key → M β) : M β := match o with
  | some s => f s
  | _ => M.bad
@[simp ↓] theorem keyM_s {β : Type} {s : Key} {f : Key → M β} : keyM (some s) f = f s := rfl
@[simp ↓] theorem m_dput : mDput i wk w ρ = bindES (w ρ) fun d ρ1 => (bindES (wk ρ1) fun k ρ2 => odicM ρ2[i]? fun kvs => keyM k.frz.key fun κ => (nx (ρ2.set i (some (.odic (putD kvs κ d.frz))))).req (kvs.length < sizeLine)).req (∃ s0, ρ1[i]? = some (some s0)) := by
  unfold mDput
  congr 1
  funext d ρ1
  congr 2
  funext k ρ2
  generalize ρ2[i]? = o
  generalize (S.frz k).key = p
  rcases o with _ | _ | s <;> first | rfl | (cases s <;> first | rfl | (cases p <;> rfl))
def tup2M {β : Type} (o : D) (f : D → D → M β) : M β := match o with
  | .tup [a, b] => f a b
  | _ => M.bad
@[simp ↓] theorem tup2M_s {β : Type} {a b : D} {f : D → D → M β} : tup2M (.tup [a, b]) f = f a b := rfl
@[simp ↓] theorem m_asgJ {k : Int} : mAsgJ i j k w ρ = bindES (w ρ) fun d ρ1 => tup2M d.frz fun d1 d2 => ((M.lift (sIx (.d .jar) (.int k) d1)).bind fun _ => nx (ρ1.set j (some (.d d2)))).req (ρ1[i]? = some (some (.d .jar))) := rfl
@[simp ↓] theorem m_for {f : TgF} {vs : List Nat} : mFor wi f v vs ρ = bindES (wi ρ) fun ds ρ1 => forL (turn f v vs) ds (wipeS ρ1 vs) := rfl
/-! ### the slots' list -/

end
end DL
namespace DL
open PySem PySem.Spec L2
section
variable {ρ : Sl} {i j : Nat}
@[simp ↓] theorem st_nil' : storesS ρ [] = ρ := rfl
@[simp ↓] theorem st_cons' {p : Nat × D} {l : List (Nat × D)} : storesS ρ (p :: l) = storesS (ρ.set p.1 (some (.d p.2))) l := rfl
@[simp ↓] theorem wi_nil' : wipeS ρ [] = ρ := rfl
@[simp ↓] theorem wi_cons' {is : List Nat} : wipeS ρ (i :: is) = (wipeS ρ is).set i none := rfl
@[simp] theorem noOwn_nil : noOwnB ρ [] = true := rfl
def slotOwn (o : Option (Option S)) : Bool := match o with
  | some (some d) => !d.isOwn
  | _ => true
@[simp] theorem noOwn_cons {is : List Nat} : noOwnB ρ (i :: is) = (slotOwn ρ[i]? && noOwnB ρ is) := by
  unfold noOwnB slotOwn
  rw [List.all_cons]
  try rfl
@[simp] theorem slotOwn_n : slotOwn (some none) = true := rfl
@[simp ↓] theorem permL_nil {α : Type} {x0 : α} {l : List α} : permL x0 [] l = [] := rfl
@[simp ↓] theorem permL_cons {α : Type} {x0 : α} {l : List α} {is : List Nat} : permL x0 (i :: is) l = l.getD i x0 :: permL x0 is l := rfl
/-! ### two ways come together -/
variable {c : Prop} [Decidable c] {α : Type}
@[simp] theorem ite_ok {a b : α} {ρ ρ' : Sl} : (if c then ok a ρ else ok b ρ') = ok (if c then a else b) (if c then ρ else ρ') := by split <;> rfl
@[simp] theorem ite_slots {a b : Option S} {ρ ρ' : Sl} : (if c then (a :: ρ : Sl) else b :: ρ') = (if c then a else b) :: (if c then ρ else ρ') := by split <;> rfl
@[simp] theorem ite_some {a b : S} : (if c then some a else some b) = some (if c then a else b) := by split <;> rfl
@[simp] theorem ite_Sd {a b : D} : (if c then S.d a else S.d b) = S.d (if c then a else b) := by split <;> rfl
@[simp] theorem ite_Dint {a b : Int} : (if c then D.int a else D.int b) = D.int (if c then a else b) := by split <;> rfl
@[simp] theorem ite_Dbl {a b : Bool} : (if c then D.bl a else D.bl b) = D.bl (if c then a else b) := by split <;> rfl
/-! ### operators -/
@[simp] theorem l_i2 {g : Int → Int → D} {a b : Int} : M.lift (fI2 g (.int a) (.int b)) = M.one (.d (g a b)) := lift_one fun _ => rfl
@[simp] theorem l_sub {a b : Int} : M.lift (fSub (.int a) (.int b)) = M.one (.d (.int (a - b))) := lift_one fun _ => rfl
@[simp] theorem l_addI {a b : Int} : M.lift (fAdd (.int a) (.int b)) = M.one (.d (.int (a + b))) := lift_one fun _ => rfl
@[simp] theorem l_addT {a b : List D} : M.lift (fAdd (.tup a) (.tup b)) = (M.one (.d (.tup (a ++ b)))).req (a.length + b.length ≤ sizeLine) := lift_req fun _ => rfl
@[simp] theorem l_addL {a b : List D} : M.lift (fAdd (.lst a) (.lst b)) = (M.one (.own (a ++ b))).req (a.length + b.length ≤ sizeLine) := lift_req fun _ => rfl
@[simp] theorem l_mulI {a b : Int} : M.lift (fMul (.int a) (.int b)) = (M.one (.d (.int (a * b)))).req (MulOk a b) := lift_req fun _ => rfl
@[simp] theorem l_divI {a b : Int} : M.lift (fDiv (.int a) (.int b)) = (M.one (.d (.int (a.fdiv b)))).req (DivOk a b) := lift_req fun _ => rfl
@[simp] theorem l_modI {a b : Int} : M.lift (fMod (.int a) (.int b)) = (M.one (.d (.int (a.fmod b)))).req (b ≠ 0) := lift_req fun _ => rfl
@[simp] theorem l_powI {a b : Int} : M.lift (fPow (.int a) (.int b)) = (M.one (.d (.int (a ^ b.toNat)))).req (CPow a b) := lift_req fun _ => rfl
@[simp] theorem l_neg {a : Int} : M.lift (fNeg (.int a)) = M.one (.d (.int (-a))) := lift_one fun _ => rfl
@[simp] theorem l_eqI {a b : Int} : M.lift (fEq (.int a) (.int b)) = M.one (.d (.bl (decide (a = b)))) := lift_one fun R => by
  rw [s_eqI]; congr 3
@[simp] theorem l_neI {a b : Int} : M.lift (fNe (.int a) (.int b)) = M.one (.d (.bl (!decide (a = b)))) := lift_one fun R => by
  rw [s_neI]; congr 3
@[simp] theorem l_eqS {a b : Str} : M.lift (fEq (.str a) (.str b)) = M.one (.d (.bl (a == b))) := lift_one fun R => s_eqS
@[simp] theorem l_neS {a b : Str} : M.lift (fNe (.str a) (.str b)) = M.one (.d (.bl (!(a == b)))) := lift_one fun R => s_neS
@[simp] theorem l_int1 {a : Int} : M.lift (fInt [.int a]) = M.one (.d (.int a)) := lift_one fun _ => rfl
@[simp] theorem l_abs {a : Int} : M.lift (fAbs [.int a]) = M.one (.d (.int (if a < 0 then -a else a))) := lift_one fun _ => rfl
@[simp] theorem l_max2 {a b : Int} : M.lift (fMax2 [.int a, .int b]) = M.one (.d (.int (max a b))) := lift_one fun R => by
  show R (.d (.int _)) = _
  congr 3; omega
@[simp] theorem l_min2 {a b : Int} : M.lift (fMin2 [.int a, .int b]) = M.one (.d (.int (min a b))) := lift_one fun R => by
  show R (.d (.int _)) = _
  congr 3; omega
@[simp] theorem l_lenT {ds : List D} : M.lift (fLen [.tup ds]) = M.one (.d (.int ds.length)) := lift_one fun R => s_lenT
@[simp] theorem l_lenL {ds : List D} : M.lift (fLen [.lst ds]) = M.one (.d (.int ds.length)) := lift_one fun R => s_lenL
@[simp] theorem l_lenR {ds : List D} : M.lift (fLen [.rls ds]) = M.one (.d (.int ds.length)) := lift_one fun R => s_lenR
@[simp] theorem l_tupL {ds : List D} : M.lift (fTuple [.lst ds]) = M.one (.d (.tup ds)) := lift_one fun R => s_tupL
@[simp] theorem l_lstT {ds : List D} : M.lift (fList [.tup ds]) = M.one (.own ds) := lift_one fun R => s_lstT
@[simp] theorem l_name {d : D} : M.lift (fName i d) = M.one [(i, d)] := lift_one fun _ => rfl
@[simp] theorem l_tupN {is : List Nat} {ds : List D} : M.lift (fTupN is (.tup ds)) = (M.one (is.zip ds)).req (ds.length = is.length) := lift_req fun _ => rfl
@[simp] theorem l_rg1 {j : Int} : M.lift (rg1 [.int j]) = (M.one (rangeD 0 j.toNat)).req (-(2 ^ 62) ≤ j ∧ j < 2 ^ 62) := lift_req fun _ => rfl
@[simp] theorem l_rg2 {i j : Int} : M.lift (rg2 [.int i, .int j]) = (M.one (rangeD i (j - i).toNat)).req (-(2 ^ 62) ≤ i ∧ i < 2 ^ 62 ∧ -(2 ^ 62) ≤ j ∧ j < 2 ^ 62) := lift_req fun _ => rfl
@[simp] theorem l_revL {ds : List D} : M.lift (fRev (.lst ds)) = M.one (.own ds.reverse) := lift_one fun _ => rfl
@[simp] theorem l_slT {ds : List D} {lo hi : Option Int} : M.lift (fSl (.tup ds) lo hi) = M.one (.d (.tup (cutD ds lo hi))) := lift_one fun _ => rfl
@[simp] theorem l_slL {ds : List D} {lo hi : Option Int} : M.lift (fSl (.lst ds) lo hi) = M.one (.own (cutD ds lo hi)) := lift_one fun _ => rfl
@[simp] theorem l_slR {ds : List D} {lo hi : Option Int} : M.lift (fSl (.rls ds) lo hi) = M.one (.own (cutD ds lo hi)) := lift_one fun _ => rfl
@[simp] theorem l_divmod {a b : Int} : M.lift (fDivmod [.int a, .int b]) = (M.one (.d (.tup [.int (a / b), .int (a % b)]))).req (CDivW a b) := lift_req fun _ => rfl
@[simp] theorem l_isN_non : M.lift (fIs .non) = M.one (.d (.bl true)) := lift_one fun _ => rfl
@[simp] theorem l_isN_tup {ds : List D} : M.lift (fIs (.tup ds)) = M.one (.d (.bl false)) := lift_one fun _ => rfl
@[simp] theorem l_isN_int {i : Int} : M.lift (fIs (.int i)) = M.one (.d (.bl false)) := lift_one fun _ => rfl
@[simp] theorem l_isN_ins {c : Str} {fs : List (Str × D)} : M.lift (fIs (.ins c fs)) = M.one (.d (.bl false)) := lift_one fun _ => rfl
@[simp] theorem l_isn_non : M.lift (fIsn .non) = M.one (.d (.bl false)) := lift_one fun _ => rfl
@[simp] theorem l_isn_int {i : Int} : M.lift (fIsn (.int i)) = M.one (.d (.bl true)) := lift_one fun _ => rfl
@[simp] theorem l_isn_lst {i : List D} : M.lift (fIsn (.lst i)) = M.one (.d (.bl true)) := lift_one fun _ => rfl
@[simp] theorem rangeD_len {lo : Int} {n : Nat} : (rangeD lo n).length = n := by unfold rangeD; simp
@[simp] theorem sz_1 : (sizeLine : Nat) = 16777216 := by decide
/-! ### isinstance -/
@[simp] theorem l_isi_int {d : D} (h : d.known = true) : M.lift (fIsi [d, .v (.ty "int")]) = M.one (.d (.bl (d.isI || d.isBl))) := lift_one fun _ => isi_int h
@[simp] theorem l_isi_bool {d : D} (h : d.known = true) : M.lift (fIsi [d, .v (.ty "bool")]) = M.one (.d (.bl d.isBl)) := lift_one fun _ => isi_bool h
@[simp] theorem l_isi_tup {d : D} (h : d.known = true) : M.lift (fIsi [d, .v (.ty "tuple")]) = M.one (.d (.bl d.isT)) := lift_one fun _ => isi_tuple h
@[simp] theorem l_isi_str {d : D} (h : d.known = true) : M.lift (fIsi [d, .v (.ty "str")]) = M.one (.d (.bl d.isS)) := lift_one fun _ => isi_str h
/-! ### items by place -/
def ixM (ds : List D) (i : Int) : M S := match L2.atI ds i with
  | some x => M.one (.d x)
  | none => M.bad
theorem l_ix {d : D} {ds : List D} {i : Int} (h : ∀ R, fIx d (.int i) R = ∃ ds' x, d.items = some ds' ∧ L2.atI ds' i = some x ∧ R (.d x)) (e : d.items = some ds) : M.lift (fIx d (.int i)) = ixM ds i := by
  unfold ixM
  cases q : L2.atI ds i with
  | some x =>
    refine lift_one fun R => ?_
    rw [h, e]
    refine propext ⟨fun ⟨_, y, e1, e2, e3⟩ => ?_, fun z => ⟨ds, x, rfl, q, z⟩⟩
    cases e1; rw [q] at e2; cases e2; exact e3
  | none =>
    refine lift_bad fun R => ?_
    rw [h, e]
    refine propext ⟨fun ⟨_, y, e1, e2, e3⟩ => ?_, fun z => z.elim⟩
    cases e1; rw [q] at e2; cases e2
@[simp] theorem l_ixT {ds : List D} {i : Int} : M.lift (fIx (.tup ds) (.int i)) = ixM ds i := l_ix (fun _ => rfl) rfl
@[simp] theorem l_ixL {ds : List D} {i : Int} : M.lift (fIx (.lst ds) (.int i)) = ixM ds i := l_ix (fun _ => rfl) rfl
@[simp] theorem l_ixR {ds : List D} {i : Int} : M.lift (fIx (.rls ds) (.int i)) = ixM ds i := l_ix (fun _ => rfl) rfl
theorem ixM_some {ds : List D} {i : Int} {x : D} (h : L2.atI ds i = some x) : ixM ds i = M.one (.d x) := by unfold ixM; rw [h]
@[simp] theorem ixM_0 {a : D} {l : List D} : ixM (a :: l) 0 = M.one (.d a) := ixM_some (L2.atI_nat (j := 0) rfl)
@[simp] theorem ixM_1 {a b : D} {l : List D} : ixM (a :: b :: l) 1 = M.one (.d b) := ixM_some (L2.atI_nat (j := 1) rfl)
@[simp] theorem ixM_2 {a b c : D} {l : List D} : ixM (a :: b :: c :: l) 2 = M.one (.d c) := ixM_some (L2.atI_nat (j := 2) rfl)
@[simp] theorem ixM_3 {a b c d : D} {l : List D} : ixM (a :: b :: c :: d :: l) 3 = M.one (.d d) := ixM_some (L2.atI_nat (j := 3) rfl)
@[simp] theorem ixM_last {a : D} {l : List D} : ixM (l ++ [a]) (-1) = M.one (.d a) := ixM_some (L2.atI_last l a)
/-- the item at place i -/
def nth {α : Type} [Inhabited α] (l : List α) (i : Nat) : α := l.getD i default
@[simp] theorem nth_0 {α : Type} [Inhabited α] {a : α} {l : List α} : nth (a :: l) 0 = a := by unfold nth; rfl
@[simp] theorem nth_s {α : Type} [Inhabited α] {a : α} {l : List α} {i : Nat} : nth (a :: l) (i + 1) = nth l i := by unfold nth; simp
theorem nth_lt {α : Type} [Inhabited α] {l : List α} {i : Nat} (h : i < l.length) : nth l i = l[i] := by
  unfold nth; rw [List.getD_eq_getElem?_getD, List.getElem?_eq_getElem h]; rfl
theorem nth_mem {α : Type} [Inhabited α] {l : List α} {i : Nat} (h : i < l.length) : nth l i ∈ l := by rw [nth_lt h]; exact List.getElem_mem h
theorem nth_map {α β : Type} [Inhabited α] [Inhabited β] {l : List α} {g : α → β} {i : Nat} (h : i < l.length) : nth (l.map g) i = g (nth l i) := by
  rw [nth_lt (by simpa using h), nth_lt h]; simp
theorem nth_some {α : Type} [Inhabited α] {l : List α} {i : Nat} (h : i < l.length) : l[i]? = some (nth l i) := by rw [nth_lt h, List.getElem?_eq_getElem h]
theorem ixM_nat {α : Type} [Inhabited α] {g : α → D} {l : List α} {i : Nat} : ixM (l.map g) (i : Int) = (M.one (.d (g (nth l i)))).req (i < l.length) := by
  by_cases h : i < l.length
  · rw [req_of h]
    refine ixM_some (atI_pos (by omega) ?_)
    rw [List.getElem?_map, Int.toNat_natCast, nth_some h]; rfl
  · have e : L2.atI (l.map g) (i : Int) = none := by
      unfold L2.atI ixN
      rw [if_pos (by omega), if_neg (by simp; omega)]; rfl
    unfold ixM
    rw [e]
    simp [h]
theorem ixM_neg1 {α : Type} [Inhabited α] {g : α → D} {l : List α} : ixM (l.map g) (-1) = (M.one (.d (g (nth l (l.length - 1))))).req (0 < l.length) := by
  by_cases h : 0 < l.length
  · rw [req_of h]
    obtain ⟨l', a, rfl⟩ : ∃ l' a, l = l' ++ [a] := ⟨l.dropLast, l.getLast (by intro z; rw [z] at h; simp at h), (List.dropLast_concat_getLast _).symm⟩
    rw [List.map_append, List.map_singleton, ixM_last, nth_lt (by simp)]
    simp
  · have e : l = [] := by cases l <;> simp_all
    subst e
    simp [ixM, L2.atI, ixN]
theorem ixM_int {α : Type} [Inhabited α] {g : α → D} {l : List α} {i : Int} (h0 : 0 ≤ i) : ixM (l.map g) i = (M.one (.d (g (nth l i.toNat)))).req (i < l.length) := by
  obtain ⟨n, rfl⟩ := Int.eq_ofNat_of_zero_le h0
  rw [ixM_nat]
  congr 1
  exact propext ⟨fun h => by omega, fun h => by omega⟩
@[simp] theorem ixM_natA {α : Type} [Inhabited α] {g : α → D} {l : List α} {i : Nat} : ixM (l.map g) (i : Int) = (M.one (.d (g (nth l i)))).req (i < l.length) := ixM_nat
@[simp] theorem ixM_m0 {α : Type} [Inhabited α] {g : α → D} {l : List α} : ixM (l.map g) 0 = (M.one (.d (g (nth l 0)))).req (0 < l.length) := ixM_nat (i := 0)
@[simp] theorem ixM_mL {α : Type} [Inhabited α] {g : α → D} {l : List α} : ixM (l.map g) (-1) = (M.one (.d (g (nth l (l.length - 1))))).req (0 < l.length) := ixM_neg1
/-! ### kinds -/
@[simp] theorem isI_int {i : Int} : (D.int i).isI = true := by unfold D.isI; rfl
@[simp] theorem isBl_int {i : Int} : (D.int i).isBl = false := by unfold D.isBl; rfl
@[simp] theorem isS_str {s : Str} : (D.str s).isS = true := by unfold D.isS; rfl
@[simp] theorem isT_tup {l : List D} : (D.tup l).isT = true := by unfold D.isT; rfl
end
end DL


/-! ML7: loops and comprehensions are run. -/
namespace DL
open PySem PySem.Spec L2
section
variable {α β γ : Type} {ρ : Sl} {e : Exn} {s : S} {c : Prop} [Decidable c]
/-! ### comprehensions -/
theorem lcAll_map {g : β → α} {step : α → M (List D)} : ∀ {l : List β}, lcAll step (l.map g) = lcAll (fun a => step (g a)) l
  | [] => rfl
  | a :: l => by simp only [List.map_cons, lcAll, lcAll_map]
@[simp ↓] theorem lcAll_nil {step : α → M (List D)} : lcAll step [] = M.one [] := rfl
theorem lcAll_cons {step : α → M (List D)} {a : α} {l : List α} : lcAll step (a :: l) = (step a).bind fun ys => (lcAll step l).bind fun zs => M.one (ys ++ zs) := rfl
theorem lcAll_congr {step step' : α → M (List D)} : ∀ {l : List α}, (∀ a ∈ l, step a = step' a) → lcAll step l = lcAll step' l
  | [], _ => rfl
  | a :: l, h => by rw [lcAll_cons, lcAll_cons, h a (List.mem_cons_self ..), lcAll_congr fun b hb => h b (List.mem_cons_of_mem _ hb)]
theorem lcAll_rng {step : D → M (List D)} {lo : Int} {n : Nat} : lcAll step (rangeD lo n) = lcAll (fun i : Nat => step (.int (lo + (i : Nat)))) (List.range n) := lcAll_map
theorem lcAll_one {h : α → List D} : ∀ {l : List α}, (lcAll (fun a => M.one (h a)) l) = M.one (l.flatMap h)
  | [] => rfl
  | a :: l => by rw [lcAll_cons, lcAll_one]; rfl
@[simp] theorem lcAll_one1 {h : α → D} {l : List α} : (lcAll (fun a => M.one [h a]) l) = M.one (l.map h) := by
  rw [lcAll_one]; congr 1; induction l <;> simp_all
@[simp] theorem lcAll_if {p : α → Prop} [∀ a, Decidable (p a)] {h : α → D} {l : List α} : (lcAll (fun a => if p a then M.one [h a] else M.one []) l) = M.one ((l.filter fun a => decide (p a)).map h) := by
  have e : (fun a => if p a then M.one [h a] else M.one []) = fun a => M.one (if p a then [h a] else []) := by funext a; split <;> rfl
  rw [e, lcAll_one]
  congr 1
  induction l with
  | nil => rfl
  | cons a l ih => by_cases q : p a <;> simp [q, ih]
@[simp] theorem lcAll_req1 {q : α → Prop} {h : α → D} : ∀ {l : List α}, (lcAll (fun a => (M.one [h a]).req (q a)) l) = (M.one (l.map h)).req (∀ a ∈ l, q a)
  | [] => by simp
  | a :: l => by
    rw [lcAll_cons, lcAll_req1]
    refine M.ext fun μ P => ?_
    simp [and_assoc]
@[simp] theorem lcAll_req_if {p : α → Prop} [∀ a, Decidable (p a)] {q : α → Prop} {h : α → D} : ∀ {l : List α}, (lcAll (fun a => (if p a then (M.one [h a]) else M.one []).req (q a)) l) = (M.one ((l.filter fun a => decide (p a)).map h)).req (∀ a ∈ l, q a)
  | [] => by simp
  | a :: l => by
    rw [lcAll_cons, lcAll_req_if]
    refine M.ext fun μ P => ?_
    by_cases z : p a <;> simp [z, and_assoc]
/-- whatever the turns make; the cells stay -/
theorem lcAll_sat {step : α → M (List D)} (Pa : α → List D → Prop) : ∀ {l : List α} {P : List D → Prop}, (∀ a ∈ l, (step a).sat (Pa a)) → (∀ yss : List (List D), Paired Pa l yss → P yss.flatten) → (lcAll step l).sat P
  | [], P, _, h => by rw [lcAll_nil, sat_one]; exact h [] .nil
  | a :: l, P, hs, h => by
    rw [lcAll_cons]
    refine (hs a (List.mem_cons_self ..)).bind fun ys hy => ?_
    refine (lcAll_sat Pa (P := fun zs => P (ys ++ zs)) (fun b hb => hs b (List.mem_cons_of_mem _ hb)) fun yss hp => ?_).bind fun zs hz => by rw [sat_one]; exact hz
    have := h (ys :: yss) (.cons hy hp)
    simpa using this
/-- each turn makes one item -/
theorem lcAll_sat1 {step : α → M (List D)} (Pa : α → D → Prop) {l : List α} {P : List D → Prop} (hs : ∀ a ∈ l, (step a).sat fun ys => ∃ y, ys = [y] ∧ Pa a y) (h : ∀ ys : List D, Paired Pa l ys → P ys) : (lcAll step l).sat P :=
  lcAll_sat (fun a ys => ∃ y, ys = [y] ∧ Pa a y) hs fun yss hp => by
    refine h _ ?_
    clear hs h
    induction hp with
    | nil => exact .nil
    | cons h1 _ ih =>
      obtain ⟨y, rfl, hy⟩ := h1
      exact .cons hy ih
theorem Paired.length {R : α → β → Prop} : ∀ {xs : List α} {ys : List β}, Paired R xs ys → xs.length = ys.length
  | _, _, .nil => rfl
  | _, _, .cons _ h => congrArg (· + 1) (Paired.length h)
/-- items that are of one kind -/
theorem Paired.unmap {g : γ → D} {R : α → γ → Prop} : ∀ {xs : List α} {ys : List D}, Paired (fun a y => ∃ c, y = g c ∧ R a c) xs ys → ∃ cs : List γ, ys = cs.map g ∧ Paired R xs cs
  | _, _, .nil => ⟨[], rfl, .nil⟩
  | _, _, .cons ⟨c, e, h1⟩ h2 => by
    obtain ⟨cs, e2, h3⟩ := Paired.unmap h2
    exact ⟨c :: cs, by rw [e, e2]; rfl, .cons h1 h3⟩
variable {f f1 : TgF} {t t1 : EM Bool} {w : EM S} {b : SM} {vs vs1 : List Nat} {d : D} {wi1 : EM (List D)}
@[simp ↓] theorem lcT_eq : lcT f t w ρ d = (M.lift (f d)).bind fun l => (quiet (t (storesS ρ l)) (storesS ρ l)).bind fun b => if b = true then (quiet (w (storesS ρ l)) (storesS ρ l)).bind fun y => M.one [y.frz] else M.one [] := rfl
/-! ### loops -/
@[simp ↓] theorem turn_eq : turn f b vs d ρ = (M.lift (f d)).bind fun l => loopEnd vs (b (storesS ρ l)) := rfl
@[simp ↓] theorem lE_nx : loopEnd vs (nx ρ) = nx (wipeS ρ vs) := rfl
@[simp ↓] theorem lE_rt : loopEnd vs (rt s) = rt s := rfl
@[simp ↓] theorem lE_ex : loopEnd vs (ex e ρ) = ex e ρ := rfl
@[simp ↓] theorem lE_bind {m : M γ} {k : γ → MS} : loopEnd vs (m.bind k) = m.bind fun a => loopEnd vs (k a) := rfl
@[simp ↓] theorem lE_req {m : MS} {p : Prop} : loopEnd vs (m.req p) = (loopEnd vs m).req p := rfl
variable {k : Sl → MS}
@[simp ↓] theorem bL_nx : bindL (nx ρ) k = k ρ := rfl
@[simp ↓] theorem bL_rt : bindL (rt s) k = rt s := rfl
@[simp ↓] theorem bL_req {m : MS} {p : Prop} : bindL (m.req p) k = (bindL m k).req p := rfl
@[simp ↓] theorem forL_nil {step : α → Sl → MS} : forL step [] ρ = nx ρ := rfl
theorem forL_cons {step : α → Sl → MS} {a : α} {l : List α} : forL step (a :: l) ρ = bindL (step a ρ) (forL step l) := rfl
theorem forL_map {g : β → α} {step : α → Sl → MS} : ∀ {l : List β} {ρ : Sl}, forL step (l.map g) ρ = forL (fun a => step (g a)) l ρ
  | [], _ => rfl
  | a :: l, ρ => by
    have e : forL step (l.map g) = forL (fun a => step (g a)) l := funext fun ρ => forL_map
    rw [List.map_cons, forL_cons, forL_cons, e]
theorem forL_rng {step : D → Sl → MS} {lo : Int} {n : Nat} : forL step (rangeD lo n) ρ = forL (fun i : Nat => step (.int (lo + (i : Nat)))) (List.range n) ρ := forL_map
/-- the state behind each beginning -/
theorem forL_pre {step : α → Sl → MS} {l : List α} (f : List α → Sl) (h : ∀ pre a post, l = pre ++ a :: post → step a (f pre) = nx (f (pre ++ [a]))) : forL step l (f []) = nx (f l) := by
  have key : ∀ (post pre : List α), l = pre ++ post → forL step post (f pre) = nx (f l) := fun post => by
    induction post with
    | nil => intro pre e; rw [forL_nil, e, List.append_nil]
    | cons a post ih =>
      intro pre e
      rw [forL_cons, h pre a post e, bL_nx]
      exact ih (pre ++ [a]) (by rw [e]; simp)
  exact key l [] rfl
theorem forL_fold {σ : Type} {step : α → Sl → MS} {l : List α} (enc : σ → Sl) (stp : σ → α → σ) (h : ∀ s, ∀ a ∈ l, step a (enc s) = nx (enc (stp s a))) (s : σ) : forL step l (enc s) = nx (enc (l.foldl stp s)) := by
  induction l generalizing s with
  | nil => rfl
  | cons a l ih =>
    rw [forL_cons, h s a (List.mem_cons_self ..), bL_nx]
    exact ih (fun s b hb => h s b (List.mem_cons_of_mem _ hb)) _
/-- the first item with p ends it -/
theorem forL_find {step : α → Sl → MS} {l : List α} (f : List α → Sl) (p : α → Bool) (r : α → MS) (hr : ∀ a k, bindL (r a) k = r a) (h : ∀ pre a post, l = pre ++ a :: post → (∀ x ∈ pre, p x = false) → step a (f pre) = if p a = true then r a else nx (f (pre ++ [a]))) :
    forL step l (f []) = match l.find? p with
      | some a => r a
      | none => nx (f l) := by
  have key : ∀ (post pre : List α), l = pre ++ post → (∀ x ∈ pre, p x = false) → forL step post (f pre) = match post.find? p with
      | some a => r a
      | none => nx (f l) := fun post => by
    induction post with
    | nil => intro pre e _; rw [forL_nil, e, List.append_nil]; rfl
    | cons a post ih =>
      intro pre e hp
      rw [forL_cons, h pre a post e hp]
      cases q : p a with
      | true =>
        rw [if_pos rfl, hr, List.find?_cons, q]
      | false =>
        rw [if_neg Bool.false_ne_true, bL_nx, List.find?_cons, q]
        exact ih (pre ++ [a]) (by rw [e]; simp) fun x hx => by
          rcases List.mem_append.mp hx with hx | hx
          · exact hp x hx
          · rw [List.mem_singleton.mp hx, q]
  exact key l [] rfl (fun x hx => absurd hx (by simp))
/-- what may be at the end of a turn -/
def endP (P : Fl × Sl → Mem → Prop) (I : Sl → Mem → Prop) : Fl × Sl → Mem → Prop := fun r μ => match r.1 with
  | .nx => I r.2 μ
  | .bk => P (.nx, r.2) μ
  | .ct => False
  | .rt s => P (.rt s, []) μ
  | .ex e => P (.ex e, r.2) μ
theorem wp_bindL {m : MS} {μ : Mem} {P : Fl × Sl → Mem → Prop} : (bindL m k).wp μ P = m.wp μ (endP P fun ρ μ => (k ρ).wp μ P) := by
  unfold bindL endP
  rw [wp_bind]
  congr 1
  funext ⟨r, ρ⟩ μ1
  cases r <;> rfl
/-- .. the cells stay -/
def endS (P : Fl × Sl → Prop) (I : Sl → Prop) : Fl × Sl → Prop := fun r => match r.1 with
  | .nx => I r.2
  | .bk => P (.nx, r.2)
  | .ct => False
  | .rt s => P (.rt s, [])
  | .ex e => P (.ex e, r.2)
theorem sat_bindL {m : MS} {P : Fl × Sl → Prop} {I : Sl → Prop} (h : m.sat (endS P I)) (hk : ∀ ρ, I ρ → (k ρ).sat P) : (bindL m k).sat P := by
  refine M.sat.bind h fun r hr => ?_
  obtain ⟨r, ρ⟩ := r
  cases r <;> first | exact hk ρ hr | exact sat_one.mpr hr | exact False.elim hr
theorem forL_sat {step : α → Sl → MS} {P : Fl × Sl → Prop} (I : List α → Sl → Prop) : ∀ {l : List α} {ρ : Sl}, I l ρ → (∀ a l' ρ, I (a :: l') ρ → (step a ρ).sat (endS P (I l'))) → (∀ ρ, I [] ρ → P (.nx, ρ)) → (forL step l ρ).sat P
  | [], ρ, h, _, hd => by rw [forL_nil]; exact sat_one.mpr (hd ρ h)
  | a :: l, ρ, h, hs, hd => by
    rw [forL_cons]
    exact sat_bindL (hs a l ρ h) fun ρ' h' => forL_sat I h' hs hd
@[simp] theorem endS_nx {P : Fl × Sl → Prop} {I : Sl → Prop} : endS P I (.nx, ρ) = I ρ := rfl
@[simp] theorem sat_nx {P : Fl × Sl → Prop} : (nx ρ).sat P = P (.nx, ρ) := sat_one
@[simp] theorem sat_val {P : Oc S → Prop} : (val s).sat P = P (.v s) := sat_one
theorem M.le.bind {m n : M α} {k : α → M β} (h : m.le n) : (m.bind k).le (n.bind k) := fun μ P q => h _ _ q
theorem M.le_of_eq {m n : M α} (h : m = n) : m.le n := by rw [h]; exact M.le_refl _
/-! ### a def in the place of another -/
theorem wp_bN {m : MS} {μ : Mem} {P : Fl × Sl → Mem → Prop} : (bindN m k).wp μ P = m.wp μ fun r μ => match r.1 with
    | .nx => (k r.2).wp μ P
    | f => P (f, r.2) μ := by
  unfold bindN
  rw [wp_bind]
  congr 1
  funext ⟨r, ρ⟩ μ1
  cases r <;> rfl
theorem wp_out {m : MS} {μ : Mem} {P : Oc S → Mem → Prop} : (out m).wp μ P = m.wp μ fun r μ => match r.1 with
    | .nx => P (.v (.d .non)) μ
    | .rt s => P (.v s) μ
    | .ex e => P (.x e) μ
    | _ => False := by
  unfold out
  rw [wp_bind]
  congr 1
  funext ⟨r, ρ⟩ μ1
  cases r <;> rfl
end
end DL


/-! ML8: jars, sorting, kinds of data; small facts. -/
namespace DL
open PySem PySem.Spec L2
theorem law_tf {f : FM} {ds : List D} (h : (f ds).wp [] fun r _ => r = .v (.d (.bl true))) : tf f (fun _ _ => False) ds [] fun s _ => s = .d (.bl true) :=
  (f ds).mono (fun r μ hr => by subst hr; rfl) h
theorem law_sat {f : FM} {ds : List D} (h : (f ds).sat fun r => r = .v (.d (.bl true))) : (f ds).wp [] fun r _ => r = .v (.d (.bl true)) := h.wp fun a e => e
section
variable {α β : Type}
theorem one_inj {a b : α} : (M.one a = M.one b) = (a = b) := propext ⟨fun h => by
  have : (M.one b).wp [] fun x _ => a = x := by rw [← h]; rfl
  exact this, fun h => by rw [h]⟩
@[simp] theorem val_inj {a b : S} : (val a = val b) = (a = b) := by
  unfold val; rw [one_inj]; exact propext ⟨fun h => by cases h; rfl, fun h => by rw [h]⟩
/-! ### jars -/
@[simp] theorem l_jar0 : M.lift (fIx .jar (.int 0)) = (M.any fun _ : Int => True).bind fun n => M.one (.d (.int n)) := M.ext fun μ P => by
  simp only [wp_lift, wp_bind, wp_any, wp_one, j_ix0]
  exact propext ⟨fun ⟨R, h, i⟩ n _ => i _ (h n), fun h => ⟨fun s => P s μ, fun n => h n trivial, fun _ q => q⟩⟩
@[simp] theorem l_jar2 : M.lift (fIx .jar (.int 2)) = (M.any fun _ : Int => True).bind fun n => M.one (.d (.int n)) := M.ext fun μ P => by
  simp only [wp_lift, wp_bind, wp_any, wp_one, j_ix2]
  exact propext ⟨fun ⟨R, h, i⟩ n _ => i _ (h n), fun h => ⟨fun s => P s μ, fun n => h n trivial, fun _ q => q⟩⟩
@[simp] theorem l_jar1 : M.lift (fIx .jar (.int 1)) = (M.any fun n : Int => -(2 ^ 40) < n ∧ n < 2 ^ 40).bind fun n => M.one (.d (.int n)) := M.ext fun μ P => by
  simp only [wp_lift, wp_bind, wp_any, wp_one, j_ix1]
  exact propext ⟨fun ⟨R, h, i⟩ n b => i _ (h n b), fun h => ⟨fun s => P s μ, fun n b => h n b, fun _ q => q⟩⟩
@[simp] theorem l_sjar0 {n : Int} : M.lift (sIx (.d .jar) (.int 0) (.int n)) = M.one (.d .jar) := lift_one fun _ => j_s0
@[simp] theorem l_sjar2 {n : Int} : M.lift (sIx (.d .jar) (.int 2) (.int n)) = M.one (.d .jar) := lift_one fun _ => j_s2
@[simp] theorem l_sjar1 {n : Int} : M.lift (sIx (.d .jar) (.int 1) (.int n)) = (M.one (.d .jar)).req (-(2 ^ 40) < n ∧ n < 2 ^ 40) := lift_req fun _ => j_s1
/-! ### x[k] = e -/
/-! ### sorting -/
def isort (ns : List Int) : List Int := ns.mergeSort fun a b => decide (a ≤ b)
theorem isort_perm (ns : List Int) : (isort ns).Perm ns := List.mergeSort_perm ..
theorem isort_sorted (ns : List Int) : (isort ns).Pairwise (· ≤ ·) := by
  have := List.pairwise_mergeSort (le := fun a b : Int => decide (a ≤ b)) (by intro a b c; simp; omega) (by intro a b; simp; omega) ns
  exact this.imp fun h => by simpa using h
theorem isort_uniq {ns ms : List Int} (p : ms.Perm ns) (s : ms.Pairwise (· ≤ ·)) : ms = isort ns :=
  (p.trans (isort_perm ns).symm).eq_of_pairwise (fun a b _ _ h1 h2 => Int.le_antisymm h1 h2) s (isort_sorted ns)
theorem isort_mem {ns : List Int} {x : Int} : x ∈ isort ns ↔ x ∈ ns := (isort_perm ns).mem_iff
@[simp] theorem isort_length {ns : List Int} : (isort ns).length = ns.length := (isort_perm ns).length_eq
theorem fInts_lst {g : List Int → (S → Prop) → Prop} {ns : List Int} {R : S → Prop} : fInts g [.lst (ns.map .int)] R = g ns R := by
  unfold fInts
  refine propext ⟨fun ⟨ms, e, h⟩ => ?_, fun h => ⟨ns, .inl rfl, h⟩⟩
  rcases e with e | e
  · have : ns = ms := int_inj (by injection e with e _; injection e)
    rwa [this]
  · injection e with e _; cases e
@[simp] theorem l_sorted {ns : List Int} : M.lift (fSorted [.lst (ns.map .int)]) = M.one (.own ((isort ns).map .int)) := M.ext fun μ P => by
  rw [wp_lift, wp_one]
  refine propext ⟨fun ⟨R, h, i⟩ => i _ ?_, fun h => ⟨fun s => s = .own ((isort ns).map .int), ?_, fun s e => by rw [e]; exact h⟩⟩
  · unfold fSorted at h
    rw [fInts_lst] at h
    exact h _ (isort_perm ns) (isort_sorted ns)
  · unfold fSorted
    rw [fInts_lst]
    exact fun ns' p s => by rw [isort_uniq p s]
/-- strictly ascending, each once -/
def insU (a : Int) : List Int → List Int
  | [] => [a]
  | b :: l => if a < b then a :: b :: l else if a = b then b :: l else b :: insU a l
theorem insU_mem {a x : Int} : ∀ {l : List Int}, x ∈ insU a l ↔ x = a ∨ x ∈ l
  | [] => by simp [insU]
  | b :: l => by
    unfold insU
    split
    · simp
    · split
      · rename_i h; subst h; simp
      · simp only [List.mem_cons, insU_mem (l := l)]
        constructor
        · rintro (h | h | h) <;> simp [h]
        · rintro (h | h | h) <;> simp [h]
/-- the greatest, the least -/
def maxL : List Int → Int
  | [] => 0
  | [a] => a
  | a :: b :: l => max a (maxL (b :: l))
def minL : List Int → Int
  | [] => 0
  | [a] => a
  | a :: b :: l => min a (minL (b :: l))
theorem maxL_spec : ∀ {l : List Int}, l ≠ [] → maxL l ∈ l ∧ ∀ y ∈ l, y ≤ maxL l
  | [a], _ => by simp [maxL]
  | a :: b :: l, _ => by
    obtain ⟨h1, h2⟩ := maxL_spec (l := b :: l) (by simp)
    unfold maxL
    refine ⟨?_, fun y hy => ?_⟩
    · rcases Int.le_total a (maxL (b :: l)) with q | q
      · rw [Int.max_eq_right q]; exact List.mem_cons_of_mem _ h1
      · rw [Int.max_eq_left q]; exact List.mem_cons_self ..
    · rcases List.mem_cons.mp hy with rfl | hy
      · omega
      · have := h2 y hy; omega
theorem minL_spec : ∀ {l : List Int}, l ≠ [] → minL l ∈ l ∧ ∀ y ∈ l, minL l ≤ y
  | [a], _ => by simp [minL]
  | a :: b :: l, _ => by
    obtain ⟨h1, h2⟩ := minL_spec (l := b :: l) (by simp)
    unfold minL
    refine ⟨?_, fun y hy => ?_⟩
    · rcases Int.le_total a (minL (b :: l)) with q | q
      · rw [Int.min_eq_left q]; exact List.mem_cons_self ..
      · rw [Int.min_eq_right q]; exact List.mem_cons_of_mem _ h1
    · rcases List.mem_cons.mp hy with rfl | hy
      · omega
      · have := h2 y hy; omega
@[simp] theorem l_maxL {ns : List Int} : M.lift (fMaxL [.lst (ns.map .int)]) = (M.one (.d (.int (maxL ns)))).req (0 < ns.length) := M.ext fun μ P => by
  rw [wp_lift, wp_req, wp_one]
  refine propext ⟨fun ⟨R, h, i⟩ => ?_, fun ⟨h1, h⟩ => ⟨fun s => s = .d (.int (maxL ns)), ?_, fun s e => by rw [e]; exact h⟩⟩
  · unfold fMaxL at h
    rw [fInts_lst] at h
    obtain ⟨q1, q2⟩ := maxL_spec (l := ns) (by intro z; rw [z] at h; simp at h)
    exact ⟨h.1, i _ (h.2 _ q1 q2)⟩
  · unfold fMaxL
    rw [fInts_lst]
    obtain ⟨q1, q2⟩ := maxL_spec (l := ns) (by intro z; rw [z] at h1; simp at h1)
    exact ⟨h1, fun m a b => by rw [Int.le_antisymm (q2 m a) (b _ q1)]⟩
@[simp] theorem l_minL {ns : List Int} : M.lift (fMinL [.lst (ns.map .int)]) = (M.one (.d (.int (minL ns)))).req (0 < ns.length) := M.ext fun μ P => by
  rw [wp_lift, wp_req, wp_one]
  refine propext ⟨fun ⟨R, h, i⟩ => ?_, fun ⟨h1, h⟩ => ⟨fun s => s = .d (.int (minL ns)), ?_, fun s e => by rw [e]; exact h⟩⟩
  · unfold fMinL at h
    rw [fInts_lst] at h
    obtain ⟨q1, q2⟩ := minL_spec (l := ns) (by intro z; rw [z] at h; simp at h)
    exact ⟨h.1, i _ (h.2 _ q1 q2)⟩
  · unfold fMinL
    rw [fInts_lst]
    obtain ⟨q1, q2⟩ := minL_spec (l := ns) (by intro z; rw [z] at h1; simp at h1)
    exact ⟨h1, fun m a b => by rw [Int.le_antisymm (b _ q1) (q2 m a)]⟩
/-! ### kinds of data: an encoding that == reads back -/
class En (α : Type) [DecidableEq α] where
  d : α → D
  dep : Nat
  eqb : ∀ a b, D.eqb (d a) (d b) = decide (a = b)
  py : ∀ a, (d a).isPy = true ∧ (d a).py.canLay0 = true ∧ (d a).py.depth ≤ dep
theorem pysAll {α : Type} [DecidableEq α] [En α] : ∀ xs : List α, D.arePy (xs.map En.d) = true ∧ PyData.canLayAll0 (D.pys (xs.map En.d)) = true ∧ PyData.depthAll (D.pys (xs.map En.d)) ≤ En.dep α
  | [] => ⟨rfl, rfl, Nat.zero_le _⟩
  | x :: xs => by
    obtain ⟨a, b, c⟩ := En.py x
    obtain ⟨a', b', c'⟩ := pysAll xs
    refine ⟨by simp only [List.map_cons, D.arePy, a, a', Bool.and_self], by simp only [List.map_cons, D.pys, PyData.canLayAll0, b, b', Bool.and_self], ?_⟩
    simp only [List.map_cons, D.pys, PyData.depthAll]; omega
instance : En Int := ⟨.int, 0, eqb_int, fun _ => ⟨rfl, rfl, Nat.le_refl _⟩⟩
instance : En Bool := ⟨.bl, 0, fun a b => by cases a <;> cases b <;> simp [D.eqb, D.py, PyData.eqv], fun _ => ⟨rfl, rfl, Nat.le_refl _⟩⟩
instance {α : Type} [DecidableEq α] [En α] : En (List α) := ⟨fun xs => .tup (xs.map En.d), En.dep α + 1, fun a b => eqb_tupM En.eqb a b, fun xs => by
  obtain ⟨a, b, c⟩ := pysAll xs
  exact ⟨a, by simpa only [D.py, PyData.canLay0] using b, by simp only [D.py, PyData.depth]; omega⟩⟩
theorem eqb_tup2 {α β : Type} [DecidableEq α] [DecidableEq β] {f : α → D} {g : β → D} (hf : ∀ a b, D.eqb (f a) (f b) = decide (a = b)) (hg : ∀ a b, D.eqb (g a) (g b) = decide (a = b)) (p q : α × β) : D.eqb (.tup [f p.1, g p.2]) (.tup [f q.1, g q.2]) = decide (p = q) := by
  have e1 := hf p.1 q.1
  have e2 := hg p.2 q.2
  simp only [D.eqb] at e1 e2
  simp only [D.eqb, D.py, D.pys, PyData.eqv, PyData.eqvAll, e1, e2, Bool.and_true]
  obtain ⟨a, b⟩ := p
  obtain ⟨c, d⟩ := q
  rw [← Bool.decide_and]
  exact decide_eq_decide.mpr (by simp)
instance {α β : Type} [DecidableEq α] [DecidableEq β] [En α] [En β] : En (α × β) := ⟨fun p => .tup [En.d p.1, En.d p.2], max (En.dep α) (En.dep β) + 1, fun p q => eqb_tup2 En.eqb En.eqb p q, fun p => by
  obtain ⟨a, b, c⟩ := En.py p.1
  obtain ⟨a', b', c'⟩ := En.py p.2
  refine ⟨by simp only [D.isPy, D.arePy, a, a', Bool.and_self], by simp only [D.py, D.pys, PyData.canLay0, PyData.canLayAll0, b, b', Bool.and_self], ?_⟩
  simp only [D.py, D.pys, PyData.depth, PyData.depthAll]; omega⟩
section
variable [DecidableEq α] [En α]
theorem en_ok (h : En.dep α ≤ 60) (a : α) : (En.d a).okEq = true := by
  obtain ⟨a, b, c⟩ := En.py a
  simp only [D.okEq, a, SeqAt.shaped, b, Bool.true_and, decide_eq_true_eq]
  omega
theorem en_okL (h : En.dep α ≤ 59) (xs : List α) : (D.lst (xs.map En.d)).okEq = true := by
  obtain ⟨a, b, c⟩ := pysAll xs
  simp only [D.okEq, D.isPy, D.py, SeqAt.shaped, PyData.canLay0, PyData.depth, a, b, Bool.true_and, decide_eq_true_eq]
  omega
theorem l_eqEn (h : En.dep α ≤ 60) {a b : α} : M.lift (fEq (En.d a) (En.d b)) = M.one (.d (.bl (decide (a = b)))) := lift_one fun R => by
  unfold fEq; rw [En.eqb, D.cmpOk, en_ok h, en_ok h]; simp
theorem l_eqEnL (h : En.dep α ≤ 59) {a b : List α} : M.lift (fEq (.lst (a.map En.d)) (.lst (b.map En.d))) = M.one (.d (.bl (decide (a = b)))) := lift_one fun R => by
  unfold fEq; rw [eqb_lstM En.eqb, D.cmpOk, en_okL h, en_okL h]; simp
end
@[simp] theorem l_eqTI {a b : List Int} : M.lift (fEq (tI a) (tI b)) = M.one (.d (.bl (decide (a = b)))) := l_eqEn (α := List Int) (by decide)
@[simp] theorem l_eqGI {a b : List Int} : M.lift (fEq (gI a) (gI b)) = M.one (.d (.bl (decide (a = b)))) := l_eqEnL (α := Int) (by decide)
/-! ### in -/
theorem any_int {ns : List Int} {x : Int} : ((ns.map D.int).any fun z => D.eqb z (.int x)) = decide (x ∈ ns) := by
  induction ns with
  | nil => simp
  | cons a l ih => simp only [List.map_cons, List.any_cons, ih, eqb_int, List.mem_cons]; rw [← Bool.decide_or]; exact decide_eq_decide.mpr (by constructor <;> rintro (h | h) <;> simp [h])
theorem all_scl_int {ns : List Int} : (ns.map D.int).all D.scl = true := by simp [D.scl]
theorem l_in {d : D} {x : Int} {ns : List Int} (e : d.items = some (ns.map .int)) : M.lift (fIn (.int x) d) = M.one (.d (.bl (decide (x ∈ ns)))) := lift_one fun R => by
  unfold fIn
  rw [e]
  exact propext ⟨fun ⟨ds, e, _, _, h⟩ => by cases e; rw [any_int] at h; exact h, fun h => ⟨_, rfl, rfl, all_scl_int, by rw [any_int]; exact h⟩⟩
theorem l_nin {d : D} {x : Int} {ns : List Int} (e : d.items = some (ns.map .int)) : M.lift (fNin (.int x) d) = M.one (.d (.bl (!decide (x ∈ ns)))) := lift_one fun R => by
  unfold fNin
  rw [e]
  exact propext ⟨fun ⟨ds, e, _, _, h⟩ => by cases e; rw [any_int] at h; exact h, fun h => ⟨_, rfl, rfl, all_scl_int, by rw [any_int]; exact h⟩⟩
@[simp] theorem l_inT {x : Int} {ns : List Int} : M.lift (fIn (.int x) (.tup (ns.map .int))) = M.one (.d (.bl (decide (x ∈ ns)))) := l_in rfl
@[simp] theorem l_inL {x : Int} {ns : List Int} : M.lift (fIn (.int x) (.lst (ns.map .int))) = M.one (.d (.bl (decide (x ∈ ns)))) := l_in rfl
@[simp] theorem l_ninT {x : Int} {ns : List Int} : M.lift (fNin (.int x) (.tup (ns.map .int))) = M.one (.d (.bl (!decide (x ∈ ns)))) := l_nin rfl
/-! ### all, any of tests -/
@[simp] theorem l_allM {p : α → Bool} {l : List α} : M.lift (fAll [.lst (l.map fun a => .bl (p a))]) = M.one (.d (.bl (l.all p))) := lift_one fun R => all_map
/-! ### sizes of ints -/
theorem mulOk_l {a b : Int} (h : -(2 ^ 64) < a ∧ a < 2 ^ 64) : MulOk a b := .inl (.inl h)
theorem mulOk_r {a b : Int} (h : -(2 ^ 64) < b ∧ b < 2 ^ 64) : MulOk a b := .inl (.inr h)
theorem log_of {a : Int} {n : Nat} (h : a.natAbs < 2 ^ n) (hn : 0 < n) : a.natAbs.log2 < n := by
  by_cases z : a.natAbs = 0
  · rw [z]; simpa using hn
  · exact (Nat.log2_lt z).mpr h
theorem divOk_w {a b : Int} (n : Nat) (h0 : 0 < b) (h : b.natAbs < 2 ^ n) (hn : 0 < n) (hs : n ≤ 9000) : DivOk a b := .inr ⟨h0, by have := log_of h hn; omega⟩
theorem divOk_n {a b : Int} (h0 : b ≠ 0) (h : b.natAbs < 1073741824) : DivOk a b := .inl ⟨h0, h⟩
end
end DL


/-! ML9: own classes as computations. -/
namespace DL
open PySem PySem.Spec L2
section
variable {α β γ : Type}
def optM (o : Option α) (k : α → M β) : M β := match o with
  | some a => k a
  | none => M.bad
@[simp ↓] theorem optM_some {a : α} {k : α → M β} : optM (some a) k = k a := rfl
theorem wp_optM {o : Option α} {k : α → M β} {μ : Mem} {P : β → Mem → Prop} : (optM o k).wp μ P = ∃ a, o = some a ∧ (k a).wp μ P := by
  cases o with
  | none => exact propext ⟨fun h => False.elim h, fun ⟨_, h, _⟩ => by cases h⟩
  | some a => exact propext ⟨fun h => ⟨a, rfl, h⟩, fun ⟨b, e, h⟩ => by cases e; exact h⟩
@[simp] theorem ask_const {m : M α} : M.ask (fun _ => m) = m := rfl
@[simp] theorem any_const {ι : Type} {m : M α} [Nonempty ι] : ((M.any fun _ : ι => True).bind fun _ => m) = m := M.ext fun μ P => by
  rw [wp_bind, wp_any]
  exact propext ⟨fun h => h (Classical.choice inferInstance) trivial, fun h _ _ => h⟩
end
@[simp] theorem fsOf_ins {C : Str} {fs : List (Str × D)} {μ : Mem} : (D.ins C fs).fsOf C μ = some fs := by unfold D.fsOf; exact if_pos rfl
theorem ofString_inj' {a b : String} (h : Str.ofString a = Str.ofString b) : a = b := by
  rw [Str.ofString_eq_toList, Str.ofString_eq_toList] at h
  have h1 : (a.toList.map Char.toNat).toArray = (b.toList.map Char.toNat).toArray := congrArg Str.cps h
  have h2 : a.toList.map Char.toNat = b.toList.map Char.toNat := by simpa using h1
  have h3 : a.toList = b.toList := mapInj (fun x y e => Char.ext (UInt32.toNat_inj.mp e)) h2
  exact String.toList_inj.mp h3
@[simp] theorem ofString_inj {a b : String} : (Str.ofString a = Str.ofString b) = (a = b) := propext ⟨ofString_inj', fun h => by rw [h]⟩
@[simp] theorem lookup_S {α : Type} {a b : String} {v : α} {l : List (Str × α)} : List.lookup (Str.ofString a) ((Str.ofString b, v) :: l) = if a = b then some v else List.lookup (Str.ofString a) l := by
  rw [List.lookup_cons]
  by_cases h : a = b
  · subst h; rw [if_pos rfl]; simp
  · rw [if_neg h]
    have : (Str.ofString a == Str.ofString b) = false := by
      rw [Bool.eq_false_iff]; intro q; exact h (ofString_inj' (eq_of_beq q))
    rw [this]
@[simp] theorem putA_nil {f : Str} {v : D} : putA f v [] = [(f, v)] := rfl
@[simp] theorem putA_S {a b : String} {v x : D} {l : List (Str × D)} : putA (Str.ofString a) v ((Str.ofString b, x) :: l) = if b = a then (Str.ofString b, v) :: l else (Str.ofString b, x) :: putA (Str.ofString a) v l := by
  show (if Str.ofString b = Str.ofString a then _ else _) = _
  by_cases h : b = a
  · rw [if_pos h, if_pos (by rw [h])]
  · rw [if_neg h, if_neg (fun e => h (ofString_inj' e))]
/-! ### constructs -/
section
variable {X : Cx} {G : Gx} {T : WX} {a b c e o value : Expr} {ma mb mo : EM S} {mu mk : EM (List D)} {pos pos' p apos cpos : Pos} {i k j : Nat} {f C m : Str} {ps : List Str} {es : List Expr} {kws : List Keyword} {p0 : Str}
def mFld (C f : Str) (ma : EM S) : EM S := fun ρ => bindE (ma ρ) fun x ρ1 => M.ask fun μ => optM (x.frz.fsOf C μ) fun fs => optM (fs.lookup f) fun v => ok (.d v) ρ1
theorem tw_fld : tw (mFld C f ma) = wFld C f (tw ma) := by
  funext Z ρ R
  simp only [tw, mFld, twE, wp_ask, wp_optM, wp_ok, oc_v, wFld, fldGet]
  congr 1
  funext r μ
  congr 1
  funext x
  exact propext ⟨fun ⟨fs, h1, v, h2, h3⟩ => ⟨fs, v, h1, h2, h3⟩, fun ⟨fs, v, h1, h2, h3⟩ => ⟨fs, h1, v, h2, h3⟩⟩
theorem qe_fld (C : Str) (hG : G.W.g = X.mg) (F : FldX X.K X.mg C f) (ha : QE X G T a ma) (hb : attributeBase a f X.env (eval a X.env) = eval a X.env := by rfl) : QE X G T (.Attribute a f pos) (mFld C f ma) := by
  unfold QE; rw [tw_fld]; exact de_fld C hG F ha hb
def fldV (C f : Str) (o : Option (Option S)) (ρ : Sl) : ME S := match o with
  | some (some (.oins _ C' fs)) => (optM (fs.lookup f) fun v => ok (.d v) ρ).req (C' = C)
  | _ => M.bad
def stF (C f : Str) (i : Nat) (x : D) (o : Option (Option S)) (ρ : Sl) : MS := match o with
  | some (some (.oins q C' fs)) => (nx (ρ.set i (some (.oins q C (putA f x fs))))).req (C' = C ∧ fs.length < 1000)
  | _ => M.bad
@[simp ↓] theorem stF_o {q : Addr} {C' : Str} {fs : List (Str × D)} {ρ : Sl} {x : D} : stF C f i x (some (some (.oins q C' fs))) ρ = (nx (ρ.set i (some (.oins q C (putA f x fs))))).req (C' = C ∧ fs.length < 1000) := rfl
def mStF (C f : Str) (i : Nat) (ma : EM S) : SM := fun ρ => (bindES (ma ρ) fun x ρ1 => stF C f i x.frz ρ1[i]? ρ1).req (∃ s, ρ[i]? = some (some s))
theorem qs_stF (C : Str) (i : Nat) {x : Str} (hG : G.W.g = X.mg) (F : FldX X.K X.mg C f) (hv' : QE X G T value ma) (hs : swapsWith value (some (.Attribute (.Name x p) f pos')) pos.line X.env = pure false := by rfl) (hN : X.N[i]? = some x := by rfl) (hv : Vis X.env.scope x := by first | exact Or.inl rfl | exact Or.inr (Or.inl rfl) | exact Or.inr (Or.inr rfl)) (hd : (x == ("__debug__" : Str)) = false := by decide)
    (hcd : (x == ("__classdict__" : Str)) = false := by decide) : QS X G T (.Assign [.Attribute (.Name x p) f pos'] value pos) (mStF C f i ma) :=
  ds_mono (ds_stF C i hG F hv' hs hN hv hd hcd) fun E ρ h => by
    unfold ts mStF at h
    rw [wp_req, twS] at h
    refine ⟨h.1, (ma ρ.sl).mono (fun r μ h => ?_) h.2⟩
    obtain ⟨r, σ⟩ := r
    cases r with
    | x e => exact h
    | v x =>
      simp only [oc_v] at h ⊢
      unfold stF at h
      split at h
      · rename_i q C' fs e
        try rw [e]
        exact ⟨h.1.1, h.1.2, h.2⟩
      · exact False.elim h
/-- a property's answer: it raises nothing -/
def putN (m : M (Oc S)) (ρ : Sl) : ME S := m.bind fun r => r.elim (fun s => ok s ρ) fun _ => M.bad
section
variable {α : Type} {ρ : Sl} {s : S} {x : Exn} {c : Prop} [Decidable c]
@[simp ↓] theorem putN_val : putN (val s) ρ = ok s ρ := rfl
theorem tw_putN {m : M (Oc S)} {Z : ZK} {μ : Mem} {R : S → Rho → Prop} : (putN m ρ).wp μ (fun r μ => r.1.elim (fun a => R a ⟨r.2, μ⟩) fun e => Z e ⟨r.2, μ⟩) = m.wp μ fun r μ => r.elim (fun a => R a ⟨ρ, μ⟩) fun e => False := by
  unfold putN
  rw [wp_bind]
  congr 1
  funext r μ1
  cases r <;> rfl
end
def mProp (C : Str) (g : FM) (ma : EM S) : EM S := fun ρ => bindE (ma ρ) fun x ρ1 => M.ask fun μ => optM (x.frz.fsOf C μ) fun _ => putN (g [x.frz]) ρ1
theorem tw_prop {g : FM} : tw (mProp C g ma) = wProp C (tf g) (tw ma) := by
  funext Z ρ R
  simp only [tw, mProp, twE, wp_ask, wp_optM, tw_putN, wProp, tf]
  congr 1
  funext r μ
  congr 1
  funext x
  exact propext ⟨fun ⟨fs, h1, h2⟩ => ⟨⟨fs, h1⟩, h2⟩, fun ⟨⟨fs, h1⟩, h2⟩ => ⟨fs, h1, h2⟩⟩
theorem qe_prop {g : FM} (Cx : CxG X T k) (hG : G.W.g = X.mg) (F : DfP X.prog X.w X.K X.mg X.base j C f ps (tf g)) (hps : ps.length = 1) (hj : j + 1 ≤ k) (ha : QE X G T a ma) (hb : attributeBase a f X.env (eval a X.env) = eval a X.env := by rfl) : QE X G T (.Attribute a f pos) (mProp C g ma) := by
  unfold QE; rw [tw_prop]; exact de_prop Cx hG F hps hj ha hb
def mMeth (C m : Str) (n : Nat) (g : FM) (mo : EM S) (mu : EM (List D)) : EM S := fun ρ => bindE (mo ρ) fun x ρ1 => M.ask fun μ => optM (x.frz.fsOf C μ) fun fs => (bindE (mu ρ1) fun ds ρ2 => (put (g (x.frz :: ds)) ρ2).req (ds.length + 1 = n)).req (fs.lookup m = none)
theorem tw_meth {n : Nat} {g : FM} : tw (mMeth C m n g mo mu) = wMeth C m n (tf g) (tw mo) (tw mu) := by
  funext Z ρ R
  simp only [tw, mMeth, twE, wp_ask, wp_optM, wp_req, tw_put, wMeth, tf]
  congr 1
  funext r μ
  congr 1
  funext x
  exact propext ⟨fun ⟨fs, h1, h2, h3⟩ => ⟨⟨fs, h1, h2⟩, h3⟩, fun ⟨⟨fs, h1, h2⟩, h3⟩ => ⟨fs, h1, h2, h3⟩⟩
theorem qe_meth {nps : Nat} {qual : Str} {st : Stmt} {pl : Sem Bool} {g : FM} (Cx : CxG X T k) (hG : G.W.g = X.mg) (F : DfM X.prog X.w X.K X.mg X.base j C m qual st ps (tf g)) (hj : j ≤ k) (ho : QE X G T o mo) (ha : QA X G T (e :: es) mu)
    (hst : starEach (e :: es) X.env = (false, eval e X.env) :: starEach es X.env := by rfl) (hpl : (backTo pos (starEach es X.env)).any (·.1) = false := by rfl)
    (ht : eval (.Call (.Attribute o m apos) (e :: es) [] pos) X.env = (do
      let ov ← eval o X.env
      standAt apos.atName
      let (f, first) ← holding [ov] (getMethod ov m pl)
      callWith pos f first (backTo pos (starEach (e :: es) X.env)) (backToKw pos (keywordEach [] X.env))) := by rfl) (hnps : ps.length = nps := by rfl) :
    QE X G T (.Call (.Attribute o m apos) (e :: es) [] pos) (mMeth C m nps g mo mu) := by
  subst hnps
  unfold QE; rw [tw_meth]; exact de_meth Cx hG F hj ho ha hst hpl ht
theorem qe_meth0 {nps : Nat} {qual : Str} {st : Stmt} {pl : Sem Bool} {g : FM} (Cx : CxG X T k) (hG : G.W.g = X.mg) (F : DfM X.prog X.w X.K X.mg X.base j C m qual st ps (tf g)) (hj : j ≤ k) (ho : QE X G T o mo)
    (ht : eval (.Call (.Attribute o m apos) [] [] pos) X.env = (do
      let ov ← eval o X.env
      standAt apos.atName
      let (f, first) ← holding [ov] (getMethod ov m pl)
      callWith pos f first (backTo pos (starEach [] X.env)) (backToKw pos (keywordEach [] X.env))) := by rfl) (hnps : ps.length = nps := by rfl) :
    QE X G T (.Call (.Attribute o m apos) [] [] pos) (mMeth C m nps g mo mNil) := by
  subst hnps
  unfold QE; rw [tw_meth]; exact de_meth0 Cx hG F hj ho ht
/-! ### C(..) -/
def mkS (cell : Bool) (C : Str) (s : S) : M (Oc S) := match s with
  | .d (.ins _ fs) => if cell = true then M.ask fun μ => M.upd (fun μ => μ ++ [⟨C, fs⟩]) (val (.d (.cell μ.length))) else val s
  | _ => M.bad
def mkM (cell : Bool) (C : Str) (g : FM) : FM := fun ds => bindR (g ds) (mkS cell C)
theorem tf_mk {cell : Bool} {g : FM} : tf (mkM cell C g) = WF.mk cell C (tf g) := by
  funext Z ds μ R
  unfold tf WF.mk mkM bindR
  rw [wp_bind]
  congr 1
  funext r μ1
  cases r with
  | x e => rfl
  | v s =>
    dsimp only [oc_v]
    cases s with
    | d d =>
      cases d with
      | ins C' fs =>
        cases cell <;> rfl
      | _ => rfl
    | _ => rfl
theorem qe_make {nps : Nat} {x qual : Str} {st : Stmt} {g : FM} (cell : Bool) (Cx : CxG X T k) (hG : G.W.g = X.mg) (F : DfI X.prog X.w X.K X.mg X.base j x qual st (p0 :: ps) (tf g)) (hj : j + 1 ≤ k) (ha : QA X G T (e :: es) mu)
    (hg : Gl X x := by rfl) (hdb : (x == ("__debug__" : Str)) = false := by decide) (he : starEach (e :: es) X.env = (false, eval e X.env) :: starEach es X.env := by rfl) (hpl : (backTo pos (starEach es X.env)).any (·.1) = false := by rfl) (hnps : ps.length = nps := by rfl) :
    QE X G T (.Call (.Name x p) (e :: es) [] pos) (mCall nps (mkM cell x g) mu) := by
  subst hnps
  unfold QE; rw [tw_call, tf_mk]; exact de_make cell Cx hG F hj ha hg hdb he hpl
/-! ### classmethods, isinstance, classes as values -/
end
/-! ### an __init__ -/
def selfM (p : Addr) (C : Str) (o : Option (Option S)) : M (Oc S) := match o with
  | some (some (.oins q C' fs)) => (val (.d (.ins C fs))).req (q = p ∧ C' = C)
  | _ => M.bad
@[simp ↓] theorem selfM_o {p q : Addr} {C C' : Str} {fs : List (Str × D)} : selfM p C (some (some (.oins q C' fs))) = (val (.d (.ins C fs))).req (q = p ∧ C' = C) := rfl
def outI (p : Addr) (C : Str) (m : MS) : M (Oc S) := m.bind fun r => match r.1 with
  | .nx => selfM p C r.2[0]?
  | .ex e => exn e
  | _ => M.bad
section
variable {α : Type} {p : Addr} {C : Str} {ρ : Sl} {s : S} {x : Exn} {c : Prop} [Decidable c]
@[simp ↓] theorem outI_nx : outI p C (nx ρ) = selfM p C ρ[0]? := rfl
@[simp ↓] theorem outI_ex : outI p C (ex x ρ) = exn x := rfl
@[simp ↓] theorem outI_req {m : MS} {q : Prop} : outI p C (m.req q) = (outI p C m).req q := rfl
end
def initM (b : SM) (N : List Str) (C : Str) : FM := fun ds => (M.any fun _ : Addr => True).bind fun p => outI p C (b (slI N p C ds))
section
variable {P : Program} {w : World} {K : PySem.W.Frag} {mg : Str → Option Value} {base : Heap}
/-- the text of a method, of an __init__, of a property, of a classmethod -/
def RawM (K : PySem.W.Frag) (mg : Str → Option Value) (C m qual : Str) (st : Stmt) : Prop := ∃ Ca f fd, mg C = some (.ref Ca) ∧ Cls K Ca ∧ Meth K Ca m f ∧ Fun K m qual st f fd
def RawI (K : PySem.W.Frag) (mg : Str → Option Value) (C qual : Str) (st : Stmt) : Prop := ∃ Ca f fd, mg C = some (.ref Ca) ∧ Cls K Ca ∧ Mk K Ca f ∧ Fun K "__init__" qual st f fd
def RawP (K : PySem.W.Frag) (mg : Str → Option Value) (C f qual : Str) (st : Stmt) : Prop := ∃ Ca p g fd, mg C = some (.ref Ca) ∧ Cls K Ca ∧ PropOf K Ca f p g ∧ Fun K f qual st g fd
/-- the bodies' derivations -/
abbrev BodyQ (P : Program) (w : World) (K : PySem.W.Frag) (mg : Str → Option Value) (base : Heap) (k : Nat) (N : List Str) (qual : Str) (st : Stmt) (b : SM) : Prop :=
  ∀ (f : Addr) (cdv : Value) (A : Around) (outer : List PySem.Env) (s : Shared) (H H0 : Hp) (E : XK) (W : Wd), W.g = mg → CxG (cxOf (L2.CX P w) P w K mg base N qual (defScope st) f cdv A outer s H E) (fun cls d _ H => E cls d H) k →
    QSs (cxOf (L2.CX P w) P w K mg base N qual (defScope st) f cdv A outer s H E) ⟨W, H0⟩ (fun cls d _ H => E cls d H) (defBody st) b
theorem fn_q {x qual : Str} {st : Stmt} {N ps : List Str} {k : Nat} {b : SM} {f : FM} {fa : Addr} {fd : FuncData} (F : Fun K x qual st fa fd) (Sc : FnScope N ps (defScope st)) (hf : ∀ ds, ds.length = ps.length → (defM b N ds).le (f ds)) (hb : BodyQ P w K mg base k N qual st b) : FnG P w K mg base (k + 1) fa fd ps (tf f) :=
  ok_def F Sc (fun Z ds μ R hl h => by
    have q := hf ds hl μ _ h
    unfold defM at q
    rw [ts_out] at q
    exact q) fun cdv A outer s H E W hg C => hb fa cdv A outer s H H E W hg C
theorem dfm_q {C m qual : Str} {st : Stmt} {N ps : List Str} {k : Nat} {b : SM} {f : FM} (r : RawM K mg C m qual st) (Sc : FnScope N ps (defScope st))
    (hbi : ∀ (kV doc pm : Value) (an : Option Addr) (cdv ct : Value) (us : List Value), us.length = ps.length → bindArgs (PySem.W.fnOf m qual (defArgs st) (defBody st) (defScope st) .none kV doc pm an cdv ct) ⟨us, []⟩ = pure (ps.zip us))
    (hf : ∀ ds, ds.length = ps.length → (defM b N ds).le (f ds)) (hb : BodyQ P w K mg base k N qual st b) : DfM P w K mg base (k + 1) C m qual st ps (tf f) := by
  obtain ⟨Ca, fa, fd, h1, h2, h3, F⟩ := r
  exact ⟨Ca, fa, fd, h1, h2, h3, F, F.binds hbi, fn_q F Sc hf hb⟩
theorem dfp_q {C m qual : Str} {st : Stmt} {N ps : List Str} {k : Nat} {b : SM} {f : FM} (r : RawP K mg C m qual st) (Sc : FnScope N ps (defScope st))
    (hbi : ∀ (kV doc pm : Value) (an : Option Addr) (cdv ct : Value) (us : List Value), us.length = ps.length → bindArgs (PySem.W.fnOf m qual (defArgs st) (defBody st) (defScope st) .none kV doc pm an cdv ct) ⟨us, []⟩ = pure (ps.zip us))
    (hf : ∀ ds, ds.length = ps.length → (defM b N ds).le (f ds)) (hb : BodyQ P w K mg base k N qual st b) : DfP P w K mg base (k + 1) C m ps (tf f) := by
  obtain ⟨Ca, p, fa, fd, h1, h2, h3, F⟩ := r
  exact ⟨Ca, p, fa, fd, h1, h2, h3, F.binds hbi, fn_q F Sc hf hb⟩
theorem dfi_q {C qual : Str} {st : Stmt} {N ps : List Str} {k : Nat} {b : SM} {f : FM} (r : RawI K mg C qual st) (Sc : FnScope N ps (defScope st))
    (hbi : ∀ (kV doc pm : Value) (an : Option Addr) (cdv ct : Value) (us : List Value), us.length = ps.length → bindArgs (PySem.W.fnOf "__init__" qual (defArgs st) (defBody st) (defScope st) .none kV doc pm an cdv ct) ⟨us, []⟩ = pure (ps.zip us))
    (hf : ∀ ds, ds.length + 1 = ps.length → (initM b N C ds).le (f ds)) (hb : BodyQ P w K mg base k N qual st b) : DfI P w K mg base (k + 1) C qual st ps (tf f) := by
  obtain ⟨Ca, fa, fd, h1, h2, h3, F⟩ := r
  refine ⟨Ca, fa, fd, h1, h2, h3, F, F.binds hbi, ok_init F Sc (fun Z ds μ R p hl h => ?_) fun cdv A outer s H H0 E W hg Cx => hb fa cdv A outer s H H0 E W hg Cx⟩
  have q := hf ds hl μ _ h
  unfold initM at q
  rw [wp_bind] at q
  have q : (outI p C (b (slI N p C ds))).wp μ _ := q p trivial
  unfold outI at q
  rw [wp_bind] at q
  refine (b (slI N p C ds)).mono (fun r μ' h => ?_) q
  obtain ⟨r, ρ⟩ := r
  cases r with
  | nx =>
    dsimp only at h
    unfold selfM at h
    split at h
    · rename_i q C' fs e
      obtain ⟨⟨rfl, rfl⟩, h⟩ := h
      exact ⟨fs, e, h⟩
    · exact False.elim h
  | ex e => exact h
  | _ => exact False.elim h
end
end DL


/-! ML10: what the top has left, of classes. -/
namespace DL
open PySem PySem.Spec L2
def clsB (s : Stmt) (j : Nat) : Stmt := match s with
  | .ClassDef _ _ _ body _ _ _ _ _ _ _ => body.getD j (.Pass ⟨0, 0, 0, 0⟩)
  | _ => .Pass ⟨0, 0, 0, 0⟩
section
variable {K : PySem.W.Frag} {h : Heap} {mg : Str → Option Value} {C D f m qual : Str} {st : Stmt} {Ca Da fa pa : Addr} {od an : Option Addr} {sl : Array (Option Value)} {oc kV dc pm cd ct mc : Value} {rest : List Value}
theorem fldx_mk (X : K.In h) (G : h.Ns mainGlobals mg) (z : PySem.W.nsIn K mainGlobals C = some (some (.ref Ca)))
    (p1 : PySem.W.plainGet K Ca Str.empty = true) (p2 : PySem.W.hasDictIn K Ca = true) (p3 : PySem.W.plainOver K Ca = true) (p4 : PySem.W.findIn K (.ref Ca) "__setattr__" = some (some (.builtin "object.__setattr__")))
    (n : PySem.W.findIn K (.ref Ca) f = some none) : FldX K mg C f := ⟨Ca, PySem.W.mg_of X G z, ⟨p1, p2, p3, p4⟩, n⟩
theorem isix_mk (X : K.In h) (G : h.Ns mainGlobals mg) (z : PySem.W.nsIn K mainGlobals C = some (some (.ref Ca))) (i : PySem.W.isClsIn K Ca = true) (t : PySem.W.typeIn K (.ref Ca) = some (.type "type")) : IsiX K mg C := ⟨Ca, PySem.W.mg_of X G z, i, t⟩
theorem insx_mk (X : K.In h) (G : h.Ns mainGlobals mg) (z : PySem.W.nsIn K mainGlobals C = some (some (.ref Ca)))
    (p1 : PySem.W.plainGet K Ca Str.empty = true) (p2 : PySem.W.hasDictIn K Ca = true) (p3 : PySem.W.plainOver K Ca = true) (p4 : PySem.W.findIn K (.ref Ca) "__setattr__" = some (some (.builtin "object.__setattr__")))
    (q1 : PySem.W.findIn K (.ref Ca) "__class__" = some (some (.builtin "object.__class__"))) (q2 : PySem.W.specialIn K (.builtin "object.__class__") "__get__" = some (some (.builtin "getset_descriptor.__get__")))
    (q3 : PySem.W.takesIn K (.builtin "object.__class__") = some true) (q4 : PySem.W.mroIn K Ca (.type "object") = some true) : InsX K mg C := ⟨Ca, PySem.W.mg_of X G z, ⟨p1, p2, p3, p4⟩, q1, q2, q3, q4⟩
theorem subx_self (X : K.In h) (G : h.Ns mainGlobals mg) (z : PySem.W.nsIn K mainGlobals C = some (some (.ref Ca))) : SubX K mg C C (C == C) := by
  rw [beq_self_eq_true]; exact SubX.self (PySem.W.mg_of X G z)
theorem subx_mk {b : Bool} (X : K.In h) (G : h.Ns mainGlobals mg) (z : PySem.W.nsIn K mainGlobals D = some (some (.ref Da))) (y : PySem.W.nsIn K mainGlobals C = some (some (.ref Ca))) (k : PySem.W.kitOne K (.ref Da) (.ref Ca) = some b) : SubX K mg D C b :=
  ⟨Da, Ca, PySem.W.mg_of X G z, PySem.W.mg_of X G y, k⟩
theorem rawm_mk (X : K.In h) (G : h.Ns mainGlobals mg) (z : PySem.W.nsIn K mainGlobals C = some (some (.ref Ca)))
    (p1 : PySem.W.plainGet K Ca Str.empty = true) (p2 : PySem.W.hasDictIn K Ca = true) (p3 : PySem.W.plainOver K Ca = true) (p4 : PySem.W.findIn K (.ref Ca) "__setattr__" = some (some (.builtin "object.__setattr__")))
    (a : PySem.W.findIn K (.ref Ca) m = some (some (.ref fa))) (i : PySem.W.isFn K (.ref fa) = true)
    (l : K.lookup fa = some ⟨oc, od, .func (PySem.W.fnOf m qual (defArgs st) (defBody st) (defScope st) .none kV dc pm an cd ct), sl⟩) (c : PySem.W.codeIn K cd qual = true) (k : PySem.W.keepIn K (.ref fa) = true) : RawM K mg C m qual st :=
  ⟨Ca, fa, _, PySem.W.mg_of X G z, ⟨p1, p2, p3, p4⟩, ⟨a, i, k⟩, fun_mk (st := st) l c k⟩
theorem rawi_mk (X : K.In h) (G : h.Ns mainGlobals mg) (z : PySem.W.nsIn K mainGlobals C = some (some (.ref Ca)))
    (p1 : PySem.W.plainGet K Ca Str.empty = true) (p2 : PySem.W.hasDictIn K Ca = true) (p3 : PySem.W.plainOver K Ca = true) (p4 : PySem.W.findIn K (.ref Ca) "__setattr__" = some (some (.builtin "object.__setattr__")))
    (m : PySem.W.makesIn K Ca = true) (a : PySem.W.findIn K (.ref Ca) "__init__" = some (some (.ref fa))) (i : PySem.W.isFn K (.ref fa) = true) (k0 : PySem.W.keepIn K (.ref Ca) = true)
    (l : K.lookup fa = some ⟨oc, od, .func (PySem.W.fnOf "__init__" qual (defArgs st) (defBody st) (defScope st) .none kV dc pm an cd ct), sl⟩) (c : PySem.W.codeIn K cd qual = true) (k : PySem.W.keepIn K (.ref fa) = true) : RawI K mg C qual st :=
  ⟨Ca, fa, _, PySem.W.mg_of X G z, ⟨p1, p2, p3, p4⟩, ⟨m, a, i, k0⟩, fun_mk (st := st) l c k⟩
theorem rawp_mk (X : K.In h) (G : h.Ns mainGlobals mg) (z : PySem.W.nsIn K mainGlobals C = some (some (.ref Ca)))
    (p1 : PySem.W.plainGet K Ca Str.empty = true) (p2 : PySem.W.hasDictIn K Ca = true) (p3 : PySem.W.plainOver K Ca = true) (p4 : PySem.W.findIn K (.ref Ca) "__setattr__" = some (some (.builtin "object.__setattr__")))
    (a : PySem.W.findIn K (.ref Ca) m = some (some (.ref pa))) (g : PySem.W.specialIn K (.ref pa) "__get__" = some (some (.builtin "property.__get__"))) (t : PySem.W.takesIn K (.ref pa) = some true)
    (rc : PySem.W.recIn K pa "property" = some (.ref fa :: rest))
    (l : K.lookup fa = some ⟨oc, od, .func (PySem.W.fnOf m qual (defArgs st) (defBody st) (defScope st) .none kV dc pm an cd ct), sl⟩) (c : PySem.W.codeIn K cd qual = true) (k : PySem.W.keepIn K (.ref fa) = true) : RawP K mg C m qual st :=
  ⟨Ca, pa, fa, _, PySem.W.mg_of X G z, ⟨p1, p2, p3, p4⟩, ⟨a, g, t, rest, rc⟩, fun_mk (st := st) l c k⟩
end
end DL


/-! ML11: answers that may be any of some; loops whose end is known. -/
namespace DL
open PySem PySem.Spec L2
section
variable {α β γ : Type} {c : Prop}
theorem le_any {f : M (Oc S)} {p : α → Prop} {e : α → S} (h : c → f.sat fun r => ∃ a, p a ∧ r = .v (e a)) : f.le (((M.any p).bind fun a => val (e a)).req c) := by
  rintro μ P ⟨hc, q⟩
  exact (h hc).wp fun r ⟨a, ha, e⟩ => by subst e; exact q a ha
theorem le_val {f : M (Oc S)} {s : S} (h : c → f.sat fun r => r = .v s) : f.le ((val s).req c) := by
  rintro μ P ⟨hc, q⟩
  exact (h hc).wp fun r e => by subst e; exact q
theorem j_of {f : M (Oc S)} {μ : Mem} {P : Oc S → Mem → Prop} (h : c → f.sat fun r => ∃ x y z : Int, r = .v (.own [.int x, .int y, .int z]) ∧ (-(2 ^ 40) < y ∧ y < 2 ^ 40)) (q : ((val (.d .jar)).req c).wp μ P) :
    f.wp μ fun r μ => ∃ x y z : Int, r = .v (.own [.int x, .int y, .int z]) ∧ (-(2 ^ 40) < y ∧ y < 2 ^ 40) ∧ P (.v (.d .jar)) μ :=
  (h q.1).wp fun r ⟨x, y, z, e, b⟩ => ⟨x, y, z, e, b, q.2⟩
theorem any_list {n : Nat} {p : β → Prop} {P : List β → Prop} : (∀ x, p x → ∀ xs : List β, xs.length = n ∧ (∀ x ∈ xs, p x) → P (x :: xs)) ↔ ∀ ys : List β, ys.length = n + 1 ∧ (∀ x ∈ ys, p x) → P ys := by
  constructor
  · rintro h (_ | ⟨y, ys⟩) ⟨h1, h2⟩
    · cases h1
    · exact h y (h2 y (List.mem_cons_self ..)) ys ⟨by simpa using h1, fun x hx => h2 x (List.mem_cons_of_mem _ hx)⟩
  · rintro h x hx xs ⟨h1, h2⟩
    refine h (x :: xs) ⟨by simp [h1], fun y hy => ?_⟩
    rcases List.mem_cons.mp hy with rfl | hy
    · exact hx
    · exact h2 y hy
@[simp] theorem lcAll_any {p : β → Prop} {h : β → D} : ∀ {l : List α}, lcAll (fun _ => (M.any p).bind fun x => M.one [h x]) l = (M.any fun xs : List β => xs.length = l.length ∧ ∀ x ∈ xs, p x).bind fun xs => M.one (xs.map h)
  | [] => M.ext fun μ P => by
    simp only [lcAll_nil, wp_one, wp_bind, wp_any]
    exact propext ⟨fun q xs ⟨h1, _⟩ => by rw [List.eq_nil_of_length_eq_zero h1]; exact q, fun q => q [] ⟨rfl, by simp⟩⟩
  | a :: l => by
    rw [lcAll_cons, lcAll_any]
    refine M.ext fun μ P => ?_
    simp only [wp_one, wp_bind, wp_any]
    exact propext (any_list (P := fun ys => P (ys.map h) μ))
/-! ### loops, the cells as they are -/
variable {step : α → Sl → MS} {l : List α} {ρ : Sl} {k : Sl → MS}
def kP (k : Sl → MS) (Q : Oc S → Prop) : Fl × Sl → Prop := fun r => match r.1 with
  | .nx => (out (k r.2)).sat Q
  | .rt s => Q (.v s)
  | .ex e => Q (.x e)
  | _ => False
variable {s : S} {e : Exn} {Q : Oc S → Prop}
def kM (k : Sl → MS) (r : Fl × Sl) : M (Oc S) := match r.1 with
  | .nx => out (k r.2)
  | .rt s => val s
  | .ex e => exn e
  | _ => M.bad
theorem out_bN {m : MS} : out (bindN m k) = m.bind (kM k) := M.ext fun μ P => by
  unfold out bindN kM
  simp only [wp_bind]
  congr 1
  funext ⟨r, ρ⟩ μ1
  cases r <;> rfl
theorem sat_outN {m : MS} (h : m.sat (kP k Q)) : (out (bindN m k)).sat Q := by
  rw [out_bN]
  refine M.sat.bind h fun r hr => ?_
  obtain ⟨r, ρ⟩ := r
  cases r with
  | nx => exact hr
  | rt s => exact sat_one.mpr hr
  | ex e => exact sat_one.mpr hr
  | _ => exact False.elim hr
/-- a for, by what is left -/
theorem sat_for (I : List α → Sl → Prop) (h : I l ρ) (hs : ∀ a l' ρ, I (a :: l') ρ → (step a ρ).sat (endS (kP k Q) (I l'))) (hd : ∀ ρ, I [] ρ → (out (k ρ)).sat Q) : (out (bindN (forL step l ρ) k)).sat Q :=
  sat_outN (forL_sat I h hs fun ρ h => hd ρ h)
/-- a for whose end is told -/
theorem forL_end {step : α → Sl → MS} (f : List α → Sl) (e : ρ = f []) (h : ∀ pre a post, l = pre ++ a :: post → step a (f pre) = nx (f (pre ++ [a]))) : forL step l ρ = nx (f l) := by
  rw [e]; exact forL_pre f h
theorem forL_endF {σ : Type} {step : α → Sl → MS} (enc : σ → Sl) (stp : σ → α → σ) (s : σ) (e : ρ = enc s) (h : ∀ s, ∀ a ∈ l, step a (enc s) = nx (enc (stp s a))) : forL step l ρ = nx (enc (l.foldl stp s)) := by
  rw [e]; exact forL_fold enc stp h s
end
/-! ### slices, powers, items at a place -/
@[simp] theorem cpow10 {j : Int} : CPow 10 j = (0 ≤ j ∧ j ≤ 1000000) := propext ⟨fun h => ⟨h.1, h.2.1⟩, fun h => ⟨h.1, h.2, by decide⟩⟩
section
variable {α β : Type} {f : α → β} {xs : List α} {i j : Int} {lo hi : Option Int}
theorem sIx_int {n d : Nat} (h : 0 ≤ i) : HT.sIx n d (some i) = min i.toNat n := by
  show (if i < 0 then (i + (n : Int)).toNat else min i.toNat n) = min i.toNat n
  rw [if_neg (by omega)]
@[simp] theorem cut_hi (h : 0 ≤ i) : cutD xs none (some i) = xs.take i.toNat := by
  unfold cutD
  rw [sIx_int h, HT.sIx_none, List.drop_zero, Nat.sub_zero]
  rcases Nat.le_total i.toNat xs.length with q | q
  · rw [Nat.min_eq_left q]
  · rw [Nat.min_eq_right q, List.take_of_length_le (Nat.le_refl _), List.take_of_length_le q]
@[simp] theorem cut_lo (h : 0 ≤ i) : cutD xs (some i) none = xs.drop i.toNat := by
  unfold cutD
  rw [sIx_int h, HT.sIx_none]
  rcases Nat.le_total i.toNat xs.length with q | q
  · rw [Nat.min_eq_left q, List.take_of_length_le (by rw [List.length_drop]; exact Nat.le_refl _)]
  · rw [Nat.min_eq_right q, List.drop_of_length_le q, List.drop_of_length_le (Nat.le_refl _), List.take_nil]
@[simp] theorem cut_butLast : cutD xs none (some (-1)) = xs.dropLast := by
  unfold cutD
  rw [HT.sIx_none]
  show (xs.drop 0).take ((-1 + (xs.length : Int)).toNat - 0) = _
  rw [List.drop_zero, List.dropLast_eq_take]
  congr 1
  omega
@[simp ↓] theorem cut_mapS : cutD (xs.map f) lo hi = (cutD xs lo hi).map f := cut_map
end
theorem ixM_mem {es : List D} {a : Int} (h0 : 0 ≤ a) (h1 : a < es.length) : ∃ d ∈ es, ixM es a = M.one (.d d) := by
  have hi : a.toNat < es.length := by omega
  exact ⟨es[a.toNat], List.getElem_mem hi, ixM_some (atI_pos h0 (by rw [List.getElem?_eq_getElem hi]))⟩
theorem ixM_in {α : Type} [Inhabited α] {g : α → D} {l : List α} {i : Int} (h0 : 0 ≤ i) (h1 : i < l.length) : ixM (l.map g) i = M.one (.d (g (nth l i.toNat))) := by
  rw [ixM_int h0, req_of h1]
end DL
namespace DL
open PySem PySem.Spec L2
instance : En Nat := ⟨fun n => .int n, 0, fun a b => by
  rw [eqb_int]; exact decide_eq_decide.mpr Int.ofNat_inj, fun _ => ⟨rfl, rfl, Nat.le_refl _⟩⟩
/-- a tuple of tuples of integers -/
abbrev tL (ls : List (List Int)) : D := .tup (ls.map tI)
@[simp] theorem l_eqTL {a b : List (List Int)} : M.lift (fEq (tL a) (tL b)) = M.one (.d (.bl (decide (a = b)))) := l_eqEn (α := List (List Int)) (by decide)
end DL
namespace DL
open PySem PySem.Spec L2
section
variable {α : Type} {g : α → Int} {l : List α}
theorem map_intc : (l.map fun x => D.int (g x)) = (l.map g).map D.int := by rw [List.map_map]; rfl
@[simp] theorem l_maxM : M.lift (fMaxL [.lst (l.map fun x => .int (g x))]) = (M.one (.d (.int (maxL (l.map g))))).req (0 < l.length) := by rw [map_intc, l_maxL, List.length_map]
end
end DL
namespace DL
open PySem PySem.Spec L2
section
variable {α σ : Type} {l : List α} {ρ : Sl}
theorem forL_endP {step : α → Sl → MS} (enc : σ → Sl) (stp : σ → α → σ) (s : σ) (e : ρ = enc s) (h : ∀ pre a post, l = pre ++ a :: post → step a (enc (pre.foldl stp s)) = nx (enc (stp (pre.foldl stp s) a))) : forL step l ρ = nx (enc (l.foldl stp s)) := by
  rw [e]
  exact forL_pre (fun pre => enc (pre.foldl stp s)) fun pre a post e => by rw [h pre a post e, List.foldl_append]; rfl
theorem range_split {n : Nat} {pre post : List Nat} {a : Nat} (e : List.range n = pre ++ a :: post) : a = pre.length ∧ a < n := by
  have h1 : (List.range n)[pre.length]? = some a := by rw [e]; simp
  have h2 := List.getElem?_eq_some_iff.mp h1
  obtain ⟨h3, h4⟩ := h2
  rw [List.getElem_range] at h4
  rw [List.length_range] at h3
  exact ⟨h4.symm, by omega⟩
theorem forL_range {n : Nat} {step : Nat → Sl → MS} (f : Nat → Sl) (e : ρ = f 0) (h : ∀ i, i < n → step i (f i) = nx (f (i + 1))) : forL step (List.range n) ρ = nx (f n) := by
  rw [e, ← List.length_range (n := n)]
  rw [List.length_range]
  have := forL_pre (l := List.range n) (step := step) (fun pre => f pre.length) fun pre a post e => by
    obtain ⟨e1, e2⟩ := range_split e
    rw [List.length_append, List.length_singleton, ← e1]
    exact h a e2
  rw [List.length_range] at this
  exact this
end
end DL
namespace DL
open PySem PySem.Spec L2
/-- a def by its kind of arguments, what must hold, what may come -/
def spec {ι α : Type} (enc : ι → List D) (pre : ι → Prop) (post : ι → α → Prop) (res : α → S) : FM := fun ds => M.lift fun R => ∃ i, ds = enc i ∧ pre i ∧ ∀ a, post i a → R (.v (res a))
section
variable {ι α : Type} {enc : ι → List D} {pre : ι → Prop} {post : ι → α → Prop} {res : α → S}
theorem spec_eq (inj : ∀ a b, enc a = enc b → a = b) (i : ι) : spec enc pre post res (enc i) = ((M.any (post i)).bind fun a => val (res a)).req (pre i) := M.ext fun μ P => by
  unfold spec
  rw [wp_lift, wp_req, wp_bind, wp_any]
  refine propext ⟨fun ⟨R, ⟨j, e, h1, h2⟩, h3⟩ => ?_, fun ⟨h1, h2⟩ => ⟨fun r => P r μ, ⟨i, rfl, h1, fun a ha => h2 a ha⟩, fun _ h => h⟩⟩
  have := inj _ _ e
  subst this
  exact ⟨h1, fun a ha => h3 _ (h2 a ha)⟩
theorem spec_le {f : FM} (h : ∀ i, pre i → (f (enc i)).sat fun r => ∃ a, post i a ∧ r = .v (res a)) (ds : List D) : (f ds).le (spec enc pre post res ds) := by
  rintro μ P ⟨R, ⟨i, rfl, h1, h2⟩, h3⟩
  exact (h i h1).wp fun r ⟨a, ha, e⟩ => by subst e; exact h3 _ (h2 a ha)
end
theorem En.inj {α : Type} [DecidableEq α] [En α] {a b : α} (h : En.d a = En.d b) : a = b := by
  have e := En.eqb a b
  rw [h, En.eqb] at e
  exact of_decide_eq_true (e.symm.trans (decide_eq_true rfl))
end DL
namespace DL
open PySem PySem.Spec L2
section
variable {α β : Type} {f : α → β} {l m : List α} {n : Nat} {ns ms : List Int} {x y : Int}
theorem tail_mapS : (l.map f).tail = l.tail.map f := by cases l <;> rfl
theorem take_mapS : (l.map f).take n = (l.take n).map f := (List.map_take ..).symm
theorem drop_mapS : (l.map f).drop n = (l.drop n).map f := (List.map_drop ..).symm
end
end DL


/-! ML12: len(x) of an instance. -/
namespace DL
open PySem PySem.Spec L2
section
variable {X : Cx} {G : Gx} {T : WX} {a b c e o value : Expr} {ma mb mo : EM S} {mu mk : EM (List D)} {pos pos' p apos cpos : Pos} {i k j : Nat} {f C m : Str} {ps : List Str} {es : List Expr} {kws : List Keyword} {p0 : Str}
end
end DL
namespace DL
open PySem PySem.Spec L2
section
variable {α β : Type} {C f m : Str} {ma mo : EM S} {mu mk : EM (List D)} {ρ : Sl} {g : FM} {n n1 n2 i : Nat} {is : List Nat} {Cs : List Str}
@[simp ↓] theorem m_fld : mFld C f ma ρ = bindE (ma ρ) fun x ρ1 => M.ask fun μ => optM (x.frz.fsOf C μ) fun fs => optM (fs.lookup f) fun v => ok (.d v) ρ1 := rfl
@[simp ↓] theorem m_stF : mStF C f i ma ρ = (bindES (ma ρ) fun x ρ1 => stF C f i x.frz ρ1[i]? ρ1).req (∃ s, ρ[i]? = some (some s)) := rfl
@[simp ↓] theorem m_prop : mProp C g ma ρ = bindE (ma ρ) fun x ρ1 => M.ask fun μ => optM (x.frz.fsOf C μ) fun _ => putN (g [x.frz]) ρ1 := rfl
@[simp ↓] theorem m_meth : mMeth C m n g mo mu ρ = bindE (mo ρ) fun x ρ1 => M.ask fun μ => optM (x.frz.fsOf C μ) fun fs => (bindE (mu ρ1) fun ds ρ2 => (put (g (x.frz :: ds)) ρ2).req (ds.length + 1 = n)).req (fs.lookup m = none) := rfl
end
end DL
namespace DL
open PySem PySem.Spec L2
@[simp] theorem l_eqTL0 {a : List (List Int)} : M.lift (fEq (tL a) (.tup [])) = M.one (.d (.bl (decide (a = [])))) := l_eqTL (b := [])
@[simp] theorem l_eqTI0 {a : List Int} : M.lift (fEq (tI a) (.tup [])) = M.one (.d (.bl (decide (a = [])))) := l_eqTI (b := [])
end DL
namespace DL
open PySem PySem.Spec L2
/-- may be asked for equality; at most n deep -/
def EqOk (n : Nat) (d : D) : Prop := d.isPy = true ∧ d.py.canLay0 = true ∧ d.py.depth ≤ n
theorem EqOk.ok {n : Nat} {d : D} (h : EqOk n d) (hn : n ≤ 60) : d.okEq = true := by
  simp only [D.okEq, h.1, SeqAt.shaped, h.2.1, Bool.true_and, decide_eq_true_eq]; have := h.2.2; omega
theorem eqOkA {n : Nat} : ∀ {ds : List D}, (D.arePy ds = true ∧ PyData.canLayAll0 (D.pys ds) = true ∧ PyData.depthAll (D.pys ds) ≤ n) ↔ ∀ d ∈ ds, EqOk n d
  | [] => by simp [D.arePy, D.pys, PyData.canLayAll0, PyData.depthAll]
  | d :: ds => by
    have ih := eqOkA (n := n) (ds := ds)
    simp only [D.arePy, D.pys, PyData.canLayAll0, PyData.depthAll, Bool.and_eq_true, List.mem_cons, forall_eq_or_imp, EqOk]
    constructor
    · rintro ⟨⟨h1, h2⟩, ⟨h3, h4⟩, h5⟩
      exact ⟨⟨h1, h3, by omega⟩, ih.mp ⟨h2, h4, by omega⟩⟩
    · rintro ⟨⟨h1, h3, h5⟩, h⟩
      obtain ⟨h2, h4, h6⟩ := ih.mpr h
      exact ⟨⟨h1, h2⟩, ⟨h3, h4⟩, by omega⟩
def EqOkA (n : Nat) (ds : List D) : Prop := ∀ d ∈ ds, EqOk n d
@[simp] theorem eqOkA_nil {n : Nat} : EqOkA n [] := fun _ h => absurd h (by simp)
@[simp] theorem eqOkA_cons {n : Nat} {d : D} {ds : List D} : EqOkA n (d :: ds) = (EqOk n d ∧ EqOkA n ds) := by unfold EqOkA; simp
@[simp] theorem eqOkA_map {α : Type} {n : Nat} {f : α → D} {l : List α} : EqOkA n (l.map f) = ∀ a ∈ l, EqOk n (f a) := by unfold EqOkA; simp
@[simp] theorem eqOk_tup {n : Nat} {ds : List D} : EqOk (n + 1) (.tup ds) = EqOkA n ds := by
  unfold EqOkA; rw [← eqOkA]; unfold EqOk; simp only [D.isPy, D.py, PyData.canLay0, PyData.depth]
  exact propext ⟨fun ⟨a, b, c⟩ => ⟨a, b, by omega⟩, fun ⟨a, b, c⟩ => ⟨a, b, by omega⟩⟩
@[simp] theorem eqOk_lst {n : Nat} {ds : List D} : EqOk (n + 1) (.lst ds) = EqOkA n ds := by
  unfold EqOkA; rw [← eqOkA]; unfold EqOk; simp only [D.isPy, D.py, PyData.canLay0, PyData.depth]
  exact propext ⟨fun ⟨a, b, c⟩ => ⟨a, b, by omega⟩, fun ⟨a, b, c⟩ => ⟨a, b, by omega⟩⟩
@[simp] theorem eqOk_int {n : Nat} {i : Int} : EqOk n (.int i) := ⟨rfl, rfl, Nat.zero_le _⟩
@[simp] theorem eqOk_bl {n : Nat} {i : Bool} : EqOk n (.bl i) := ⟨rfl, rfl, Nat.zero_le _⟩
@[simp] theorem eqOk_non {n : Nat} : EqOk n .non := ⟨rfl, rfl, Nat.zero_le _⟩
@[simp] theorem eqOk_str {n : Nat} {s : Str} : EqOk n (.str s) = (PyData.strOk s = true) := propext ⟨fun h => h.2.1, fun h => ⟨rfl, h, Nat.zero_le _⟩⟩
theorem eqb_self {d : D} (h : d.isPy = true) : D.eqb d d = true := eqv_self d h
theorem cmpOk_of {n : Nat} {d e : D} (h : EqOk n d) (h' : EqOk n e) (hn : n ≤ 60) : D.cmpOk d e = true := by
  simp only [D.cmpOk, h.ok hn, h'.ok hn, Bool.and_self, Bool.or_true]
theorem l_eqSelf {d : D} (h : EqOk 60 d) : M.lift (fEq d d) = M.one (.d (.bl true)) := lift_one fun R => by
  unfold fEq; rw [cmpOk_of h h (Nat.le_refl _), eqb_self h.1]; simp
theorem l_neSelf {d : D} (h : EqOk 60 d) : M.lift (fNe d d) = M.one (.d (.bl false)) := lift_one fun R => by
  unfold fNe; rw [cmpOk_of h h (Nat.le_refl _), eqb_self h.1]; simp
theorem l_repr {d : D} : M.lift (fRepr [d]) = (M.one (.d (.str d.py.shown))).req d.okRepr := lift_req fun _ => rfl
/-- of which the repr may be asked: at most n deep, of weight w -/
structure RpOk (n : Nat) (w : Nat) (d : D) : Prop where
  nice : d.nice n = true
  wt : d.wt ≤ w
theorem RpOk.ok {n w : Nat} {d : D} (h : RpOk n w d) (hn : n ≤ 60) (hw : w ≤ 200000) : d.okRepr := okRepr_of h.nice hn (Nat.le_trans h.wt hw)
theorem rp_int {n : Nat} {i : Int} (h : i.natAbs < 2 ^ 200) : RpOk n 200 (.int i) := ⟨nice_int h, Nat.le_of_eq (by simp [D.wt])⟩
theorem rp_bl {n : Nat} {i : Bool} : RpOk n 0 (.bl i) := ⟨nice_bl, by simp [D.wt]⟩
theorem rp_non {n : Nat} : RpOk n 0 .non := ⟨nice_non, by simp [D.wt]⟩
theorem rp_lst {n w : Nat} {ds : List D} (h : ∀ d ∈ ds, RpOk n w d) : RpOk (n + 1) ((w + 1) * ds.length) (.lst ds) := ⟨nice_lst fun d hd => (h d hd).nice, by rw [D.wt]; exact wtA_le fun d hd => (h d hd).wt⟩
/-- the same, by how many things are in it -/
structure RbOk (n : Nat) (w : Nat) (d : D) : Prop where
  nice : d.nice n = true
  bk : d.py.bulk ≤ w
theorem RbOk.ok {n w : Nat} {d : D} (h : RbOk n w d) (hn : n ≤ 60) (hw : w ≤ 200000) : d.okRepr := by
  obtain ⟨a, b, c, e, f, g⟩ := nice_of n d h.nice
  refine ⟨a, e, Nat.le_trans c hn, ?_⟩
  have := PyData.shown_le_bulk 64 (by decide) _ (PyData.leavesShort_of_canLay0 64 _ b f)
  have := h.bk
  have : sizeLine = 2 ^ 24 := rfl
  have : (2 : Nat) ^ 24 = 16777216 := by decide
  omega
theorem RbOk.mono {n w w' : Nat} {d : D} (h : RbOk n w d) (e : w ≤ w') : RbOk n w' d := ⟨h.nice, Nat.le_trans h.bk e⟩
theorem RpOk.mono {n w w' : Nat} {d : D} (h : RpOk n w d) (e : w ≤ w') : RpOk n w' d := ⟨h.nice, Nat.le_trans h.wt e⟩
end DL
namespace DL
open PySem PySem.Spec L2
end DL


/-! ML13: dicts that come: get, in; sorted of a dict. -/
namespace DL
open PySem PySem.Spec L2
section
variable {X : Cx} {G : Gx} {T : WX} {a b c e : Expr} {ma mk md mz : EM S} {pos p apos cpos : Pos} {i : Nat} {ρ : Sl} {neg : Bool}
def inM (neg : Bool) (d k : D) (ρ : Sl) : ME S := match d, k.key with
  | .dic kvs, some κ => ok (.d (.bl ((valD kvs κ).isSome ^^ neg))) ρ
  | _, _ => M.bad
theorem wp_inM {d k : D} {μ : Mem} {P : Oc S × Sl → Mem → Prop} : (inM neg d k ρ).wp μ P = dIn d k fun b => P (.v (.d (.bl (b ^^ neg))), ρ) μ := by
  unfold inM dIn
  generalize k.key = o
  cases d <;> cases o <;> rfl
def mDinV (neg : Bool) (i : Nat) (mk : EM S) : EM S := fun ρ => (bindE (mk ρ) fun k ρ1 => slotM ρ1[i]? fun s => inM neg s.frz k.frz ρ1).req (∃ s0, ρ[i]? = some (some s0))
theorem tw_dinV : tw (mDinV neg i mk) = wDinV neg i (tw mk) := by
  funext Z ρ R
  simp only [tw, mDinV, twE, wp_req, wDinV]
  congr 2
  funext r μ1
  congr 1
  funext k
  try dsimp only
  generalize r.snd[i]? = o
  rcases o with _ | _ | s
  · rfl
  · rfl
  · exact wp_inM
theorem qt_dinV (i : Nat) {x : Str} (hu : X.A.units + 1 < cLine) (hk : QE X G T a mk) (hN : X.N[i]? = some x := by rfl) (hv : Vis X.env.scope x := by first | exact Or.inl rfl | exact Or.inr (Or.inl rfl) | exact Or.inr (Or.inr rfl)) (hd : (x == ("__debug__" : Str)) = false := by decide)
    (hcd : (x == ("__classdict__" : Str)) = false := by decide) (hm : behindInMarks .In (.Name x p) = false := by rfl) : QT X G T (.Compare a [.In] [.Name x p] pos) (mB (mDinV false i mk)) := by
  unfold QT; rw [tw_B, tw_dinV]
  exact pt_weak (pt_cmp (h1 := hm) (pc_din hu hk (pv i hN hv hd hcd))) fun _ _ _ h => lT_B (fun _ q => by have := dinV_then q; simp only [Bool.xor_false] at this; exact this) h
theorem qt_dninV (i : Nat) {x : Str} (hu : X.A.units + 1 < cLine) (hk : QE X G T a mk) (hN : X.N[i]? = some x := by rfl) (hv : Vis X.env.scope x := by first | exact Or.inl rfl | exact Or.inr (Or.inl rfl) | exact Or.inr (Or.inr rfl)) (hd : (x == ("__debug__" : Str)) = false := by decide)
    (hcd : (x == ("__classdict__" : Str)) = false := by decide) (hm : behindInMarks .NotIn (.Name x p) = false := by rfl) : QT X G T (.Compare a [.NotIn] [.Name x p] pos) (mB (mDinV true i mk)) := by
  unfold QT; rw [tw_B, tw_dinV]
  exact pt_weak (pt_cmp (h1 := hm) (pc_dnotin hu hk (pv i hN hv hd hcd))) fun _ _ _ h => lT_B (fun _ q => by have := dinV_then q; simp only [Bool.xor_true] at this; exact this) h
@[simp ↓] theorem m_dinV : mDinV neg i mk ρ = (bindE (mk ρ) fun k ρ1 => slotM ρ1[i]? fun s => inM neg s.frz k.frz ρ1).req (∃ s0, ρ[i]? = some (some s0)) := rfl
@[simp] theorem inM_int {kvs : List (Key × D)} {x : Int} : inM neg (.dic kvs) (.int x) ρ = ok (.d (.bl ((valD kvs (.inl x)).isSome ^^ neg))) ρ := rfl
end
@[simp ↓] theorem l_sortedXl {ds : List D} : M.lift (fSortedX [.lst ds]) = M.lift (fSorted [.lst ds]) := rfl
/-- a dict from ints to ints -/
abbrev dI (m : List (Int × Int)) : List (Key × D) := m.map fun p => (.inl p.1, .int p.2)
@[simp] theorem frz_odicS {kvs : List (Key × D)} : (S.odic kvs).frz = .dic kvs := rfl
section
variable {α : Type} {g : α → Int} {l : List α} {ns : List Int}
@[simp] theorem l_eqG0 : M.lift (fEq (.lst (ns.map .int)) (.lst [])) = M.one (.d (.bl (decide (ns = [])))) := l_eqGI (b := [])
end
/-! ### four names at once -/
end DL


/-! ML14: sorted of tuples, ranges as lists and tuples, len and list of dicts. -/
namespace DL
open PySem PySem.Spec L2
section
variable {X : Cx} {G : Gx} {T : WX} {a b : Expr} {ma mb : EM S} {p p1 pos pos1 : Pos} {ρ : Sl}
/-- a range's ints -/
def rgI (m n : Int) : List Int := (List.range (n - m).toNat).map fun (i : Nat) => m + (i : Int)
end
@[simp] theorem l_listDic {kvs : List (Key × D)} : M.lift (fListD [.dic kvs]) = M.one (.own (kvs.map fun kv => keyD kv.1)) := lift_one fun R => rfl
theorem tT_inj {a b : List (List Int)} (h : a.map dT = b.map dT) : a = b := by
  have := congrArg (List.map unT) h
  rwa [unT_map, unT_map] at this
theorem l_srtA {ks : List (List Int)} {d : D} (hd : d = .lst (ks.map dT) ∨ d = .tup (ks.map dT)) : M.lift (fSortedA [d]) = (M.one (.own ((sortT ks).map tI))).req (∀ k ∈ ks, k ≠ []) := lift_req fun R => propext ⟨fun ⟨ks', e, h1, h2⟩ => by
    have : ks = ks' := by
      rcases hd with rfl | rfl <;> rcases e with e | e
      · injection e with e _; injection e with e; exact tT_inj e
      · injection e with e _; cases e
      · injection e with e _; cases e
      · injection e with e _; injection e with e; exact tT_inj e
    subst this
    exact ⟨h1, h2⟩, fun ⟨h1, h2⟩ => ⟨ks, by rcases hd with rfl | rfl; exact .inl rfl; exact .inr rfl, h1, h2⟩⟩
@[simp] theorem l_srtAl {ks : List (List Int)} : M.lift (fSortedA [.lst (ks.map tI)]) = (M.one (.own ((sortT ks).map tI))).req (∀ k ∈ ks, k ≠ []) := l_srtA (.inl rfl)
end DL


/-! ML15: dict comprehensions, a[k] of a dict that comes. -/
namespace DL
open PySem PySem.Spec L2
section
variable {X : Cx} {G : Gx} {T : WX} {a b : Expr} {ma mk : EM S} {t : EM Bool} {wi : EM (List D)} {p p1 pos pos1 : Pos} {ρ : Sl}
/-- what a list of pairs puts into a dict -/
def putE (m : List (Key × D)) (e : D) : List (Key × D) := match e with
  | .tup [k, v] => match k.key with
    | some κ => putD m κ v
    | none => m
  | _ => m
def putsD (acc : List D) : List (Key × D) := acc.foldl putE []
theorem putE_pair {m : List (Key × D)} {κ : Key} {v : D} : putE m (.tup [keyD κ, v]) = putD m κ v := by
  unfold putE; cases κ <;> rfl
def dcT (f : TgF) (t : EM Bool) (ek ev : EM S) (ρ : Sl) (d : D) : M (List D) := (M.lift (f d)).bind fun l => (quiet (t (storesS ρ l)) (storesS ρ l)).bind fun b =>
  if b = true then (quiet (ek (storesS ρ l)) (storesS ρ l)).bind fun y => (quiet (ev (storesS ρ l)) (storesS ρ l)).bind fun z => keyM y.frz.key fun κ => M.one [.tup [keyD κ, z.frz]] else M.one []
def mDc (wi : EM (List D)) (f : TgF) (t : EM Bool) (ek ev : EM S) (vs : List Nat) : EM S := fun ρ => bindE (wi ρ) fun ds ρ1 => ((lcAll (dcT f t ek ev (wipeS ρ1 vs)) ds).bind fun acc => ok (.odic (putsD acc)) ρ1).req (noOwnB ρ1 vs = true ∧ ds.length ≤ sizeLine)
theorem dcL_of {f : TgF} [Mono1 f] {ek ev : EM S} {ρ : Sl} {R : List (Key × D) → Mem → Prop} : ∀ {ds : List D} {acc : List (Key × D)} {μ : Mem}, acc.length + ds.length ≤ sizeLine → (lcAll (dcT f t ek ev ρ) ds).wp μ (fun zs μ => R (zs.foldl putE acc) μ) → wDcL f (tw t) (tw ek) (tw ev) ρ R ds acc μ
  | [], acc, μ, _, h => h
  | d :: ds, acc, μ, hl, h => by
    rw [lcAll, wp_bind, dcT, wp_bind, lift_m1] at h
    refine Mono1.mono (fun l hl' => ?_) h
    rw [wp_bind, quiet_wp] at hl'
    rw [storesR_eq]
    refine (t _).mono (fun r μ1 hr => ?_) hl'
    obtain ⟨r, ρ'⟩ := r
    cases r with
    | x e => exact hr
    | v b =>
      obtain ⟨e1, hr⟩ := hr
      have e1 : ρ' = storesS ρ l := e1
      subst e1
      refine ⟨rfl, ?_⟩
      rw [List.length_cons] at hl
      cases b with
      | false =>
        simp only [Bool.false_eq_true, if_false] at hr ⊢
        rw [wp_one] at hr
        refine dcL_of (by omega) ?_
        rw [wp_bind] at hr
        exact (lcAll _ ds).mono (fun zs μ hz => by simpa using hz) hr
      | true =>
        simp only [if_true] at hr ⊢
        rw [wp_bind, quiet_wp] at hr
        refine (ek _).mono (fun r2 μ2 hr2 => ?_) hr
        obtain ⟨r2, ρ2⟩ := r2
        cases r2 with
        | x e => exact hr2
        | v y =>
          obtain ⟨e2, hr2⟩ := hr2
          refine ⟨e2, ?_⟩
          have e2 : ρ2 = storesS ρ l := e2
          subst e2
          rw [wp_bind, quiet_wp] at hr2
          refine (ev _).mono (fun r3 μ3 hr3 => ?_) hr2
          obtain ⟨r3, ρ3⟩ := r3
          cases r3 with
          | x e => exact hr3
          | v z =>
            obtain ⟨e3, hr3⟩ := hr3
            refine ⟨e3, by omega, ?_⟩
            cases hk : y.frz.key with
            | none => rw [hk] at hr3; exact hr3.elim
            | some κ =>
              refine ⟨κ, rfl, ?_⟩
              rw [hk, keyM_s, wp_one, wp_bind] at hr3
              refine dcL_of ?_ ?_
              · have : (putD acc κ z.frz).length ≤ acc.length + 1 := by unfold putD; split <;> simp
                omega
              · refine (lcAll _ ds).mono (fun zs μ hz => ?_) hr3
                have hz : R ((D.tup [keyD κ, z.frz] :: zs).foldl putE acc) μ := hz
                rw [List.foldl_cons, putE_pair] at hz
                exact hz
theorem tw_dc {f : TgF} [Mono1 f] {ek ev : EM S} {vs : List Nat} {Z : ZK} {ρ : Rho} {R : S → Rho → Prop} (h : tw (mDc wi f t ek ev vs) Z ρ R) : wDc (tw wi) f (tw t) (tw ek) (tw ev) vs Z ρ R := by
  simp only [tw, mDc, twE, wp_req, wp_bind] at h
  refine (wi ρ.sl).mono (fun r μ hr => ?_) h
  obtain ⟨r, ρ1⟩ := r
  cases r with
  | x e => exact hr
  | v ds =>
    refine ⟨noOwn_ofS hr.1.1, ?_⟩
    rw [wipeR_eq]
    exact dcL_of (by simpa using hr.1.2) hr.2
theorem qe_dc {kx vx tg iter : Expr} {ifs : List Expr} {scope : Scope} {own : List (Str × Nat)} {wi : EM (List D)} {f : TgF} {g : TG} [Mono1 f] {te tv : EM S} (hN : X.N.Nodup) (hi : QI X G T tg iter wi) (ok : BlkOk X.N X.env.scope scope own)
    (hg : ∀ (s : Shared) (H : Hp) (C : Addr) (cl : List (Str × Addr)) (fp : List Addr), TgtL (X.blk s H scope (compEnvC scope cl C X.env) fp) tg f g) (hin : TgIn f (own.map (·.2)))
    (ht : ∀ (s : Shared) (H : Hp) (C : Addr) (cl : List (Str × Addr)) (fp : List Addr), QTs (X.blk s H scope (compEnvC scope cl C X.env) fp) G noT ifs t)
    (hk : ∀ (s : Shared) (H : Hp) (C : Addr) (cl : List (Str × Addr)) (fp : List Addr), QE (X.blk s H scope (compEnvC scope cl C X.env) fp) G noT kx te)
    (he : ∀ (s : Shared) (H : Hp) (C : Addr) (cl : List (Str × Addr)) (fp : List Addr), QE (X.blk s H scope (compEnvC scope cl C X.env) fp) G noT vx tv) (hc : X.calm = true := by rfl) (hs : ∀ x, foldedSetIterable iter X.env x = pure x := by intro _; rfl) :
    QE X G T (.DictComp kx vx [⟨tg, iter, ifs, 0⟩] scope pos) (mDc wi f t te tv (own.map (·.2))) := de_mono (de_dc hN hi ok hg hin ht hk he hc hs) fun Z ρ R h => tw_dc h
@[simp ↓] theorem m_dc {f : TgF} {vs : List Nat} {ek ev : EM S} : mDc wi f t ek ev vs ρ = bindE (wi ρ) fun ds ρ1 => ((lcAll (dcT f t ek ev (wipeS ρ1 vs)) ds).bind fun acc => ok (.odic (putsD acc)) ρ1).req (noOwnB ρ1 vs = true ∧ ds.length ≤ sizeLine) := rfl
@[simp ↓] theorem dcT_eq {f : TgF} {ek ev : EM S} {d : D} : dcT f t ek ev ρ d = (M.lift (f d)).bind fun l => (quiet (t (storesS ρ l)) (storesS ρ l)).bind fun b =>
  if b = true then (quiet (ek (storesS ρ l)) (storesS ρ l)).bind fun y => (quiet (ev (storesS ρ l)) (storesS ρ l)).bind fun z => keyM y.frz.key fun κ => M.one [.tup [keyD κ, z.frz]] else M.one [] := rfl
def mDgetX (ma mk : EM S) : EM S := fun ρ => bindE (ma ρ) fun d ρ1 => bindE (mk ρ1) fun k ρ2 => (M.lift (dGet d.frz k.frz)).bind fun v => ok (.d v) ρ2
theorem tw_dgetX : tw (mDgetX ma mk) = wDgetX (tw ma) (tw mk) := by
  funext Z ρ R
  simp only [tw, mDgetX, twE, wDgetX]
  congr 1
  funext r μ1
  congr 1
  funext d
  congr 1
  funext r μ1
  congr 1
  funext k
  exact (wp_bind.trans (lift_mono fun _ _ h q => dGet_mono h q))
theorem qe_dgetX (hu : X.A.units + 1 < cLine) (ha : QE X G T a ma) (hb : QE X G T b mk) (hs : NoSl b := by intro _ _; rfl) : QE X G T (.Subscript a b pos) (mDgetX ma mk) := by
  unfold QE; rw [tw_dgetX]; exact de_dgetX hu ha hb hs
@[simp ↓] theorem m_dgetX : mDgetX ma mk ρ = bindE (ma ρ) fun d ρ1 => bindE (mk ρ1) fun k ρ2 => (M.lift (dGet d.frz k.frz)).bind fun v => ok (.d v) ρ2 := rfl
theorem fRevT_mono {d : D} {R R' : S → Prop} (h : ∀ a, R a → R' a) (f : fRevT d R) : fRevT d R' := by
  cases d <;> first | exact h _ f | exact f.elim
theorem qe_revT {e : Expr} {w : EM S} {k : Nat} {p1 p2 p3 : Pos} (he : QE X G T e w) : QE X G T (.Subscript e (.Slice none none (some (.UnaryOp .USub (.Constant (.int 1) k p1) p2)) p3) pos) (mUn fRevT w) := by
  unfold QE; rw [tw_un]
  refine de_mono (de_revT he) fun Z ρ R h => ?_
  have e : mc1 fRevT = fRevT := by
    funext d R
    exact mcl_mono fun _ _ h q => fRevT_mono h q
  rw [e] at h
  exact h
@[simp] theorem l_revT {ds : List D} : M.lift (fRevT (.tup ds)) = M.one (.d (.tup ds.reverse)) := lift_one fun _ => rfl
end
end DL


/-! ML16: xs.pop(k). -/
namespace DL
open PySem PySem.Spec L2
section
variable {X : Cx} {G : Gx} {T : WX} {e : Expr} {ma : EM S} {p apos cpos : Pos} {ρ : Sl}
end
end DL


/-! ### defs that call themselves: by the depth of the calls -/
namespace DL
open PySem PySem.Spec L2
end DL


/-! ML18: sorted of tuples of tuples of ints. -/
namespace DL
open PySem PySem.Spec L2
end DL


set_option maxHeartbeats 4000000
/-! DL28: own exception classes over any base: made, raised. -/
namespace PySem
namespace OEG
open PySem.W PySem.Calls PyProof.Rows PySem.HandSPX
section
open Builtin Builtin.ObjectAttr
variable {prog : Program} {w : World} {A : Around} {E : Value → Shared → Prop} {R : Result → Shared → Prop} {hp : Heap} {g : Array GenState} {d : Drawn} {t : Nat} {os : OsState}
theorem osa_new {K : W.Frag} {name : Str} {tk : Tok} {v : Value} {x C : Addr} {fv : Array Value} {cd : ClassData} {bmB : List Value} (hps : ∀ self, refuseLoop self "__setattr__" bmB = pure ()) (hob0 : bmB.contains (.type "object") = true)
    (X : K.In hp) (hx : hp.get? x = some { cls := .ref C, data := .fields fv }) (hcd : W.clsIn K C = some cd) (hm : excTail bmB cd.mro = true) (ne : cd.mro.isEmpty = false) (hh : cd.hasDict = true) (ha : W.findIn K (.ref C) name = some none)
    (hq : ∀ h' tk' dx, (∀ b o, b ≠ x → hp.get? b = some o → h'.get? b = some o) → hp.objs.size ≤ dx → dx ≠ x → h'.get? x = some { cls := .ref C, dict := some dx, data := .fields fv } →
      h'.Ns1 dx (fun y => if y = name then some v else none) → R (.ok (.ret .none)) ⟨h', g, d, tk', os⟩) :
    codeAny (model prog w) A (.call (.builtin "object.__setattr__") ⟨[.ref x, .str name tk, v], []⟩) R ⟨hp, g, d, t, os⟩ := by
  have I : W.InstAt hp x { cls := .ref C, data := .fields fv } C none := ⟨hx, rfl, rfl, trivial⟩
  have SF := F.store_object
  have hob : cd.mro.contains (.type "object") = true := (excTail_contains "object" _ hm).trans hob0
  have hxs : x ≠ hp.objs.size := Nat.ne_of_lt (Heap.lt_size hx)
  have sub : W.Looks (model prog w) hp (isInstance (.ref x) (.type "object")) true := I.type.andThen (W.looks_mroIn X (by unfold W.mroIn; rw [hcd, Option.bind_some, if_neg (by rw [ne]; decide), hob]))
  refine codeAny_call_builtin SF.slot.plain SF.entry (@W.check_slot (model prog w) _ _ ⟨hp, g, d, t, os⟩ "object.__setattr__" "object" "__setattr__" (.ref x) [.str name tk, v] [] _ SF.kind SF.split sub (SF.args (.ref x) (.str name tk) v) ?_)
  have hmr : W.Looks (model prog w) hp (mroOf (.ref C)) cd.mro := (W.looks_clsIn X hcd).andThen .now
  have L3 : W.Looks (model prog w) hp (storeTaker? none) none := .now
  have hcls : W.Looks (model prog w) hp (classData C) cd := W.looks_clsIn X hcd
  rw [W.osa_eq, refuse_eq]
  refine wpAny_bind (wpAny_bind (I.type.at (wpAny_bind (hmr.at ?_))))
  rw [excTail_pass _ (hps _) _ hm]
  refine wpAny_pure (wpAny_bind (I.type.at (wpAny_bind ((W.looks_findIn X ha).at (wpAny_bind (L3.at ?_))))))
  show wpAny _ _ (storeInOwnDict (.ref x) (.ref C) (.str name tk) name v false) _ _ _
  obtain ⟨nm, bs, mro, ns, qn, hd, sn, sb, ab, col, del⟩ := cd
  dsimp only at hh
  subst hh
  unfold storeInOwnDict ownDictForStores
  repeat (first | with_reducible refine store_in_new ?_ ?_ | with_reducible refine wpAny_loadPart_at hx ?_ | with_reducible refine hcls.at ?_ | wp_step)
  · exact ⟨_, #[], _, (Heap.get?_update_ne _ _ _ _ hxs.symm).trans (Heap.get?_push_at rfl rfl), rfl, fun e he => absurd he (by simp), fun _ => rfl⟩
  · intro h' tk' hn' hs
    have hx₁ : (hp.push { cls := .type "dict", data := .dict #[] }).get? x = some { cls := .ref C, data := .fields fv } := Heap.get?_push_of_some _ hx
    refine hq h' tk' hp.objs.size (fun b o hb ho => ?_) (Nat.le_refl _) hxs.symm ?_ hn'
    · exact (hs.2 b (Nat.ne_of_lt (Heap.lt_size ho))).trans ((Heap.get?_update_ne _ _ _ _ hb).trans (Heap.get?_push_of_some _ ho))
    · exact (hs.2 x hxs).trans (Heap.get?_update_self _ hx₁ rfl)
end
end OEG
end PySem
namespace DL
open PySem PySem.Spec PyProof.Rows L2
/-- a built-in base of exceptions -/
structure XBase (bmB : List Value) (newId : String) : Prop where
  fb : ∃ B initId, ExcBaseFacts B newId initId bmB
  ps : ∀ self, refuseLoop self "__setattr__" bmB = pure ()
  ob : bmB.contains (.type "object") = true
abbrev bmVE : List Value := [.type "ValueError", .type "Exception", .type "BaseException", .type "object"]
theorem xb_ve : XBase bmVE "ValueError.__new__" := ⟨⟨_, _, F.excBase_ValueError⟩, F.store_ValueError.passes, by decide +kernel⟩
/-- an own class of exceptions -/
structure XCls (K : PySem.W.Frag) (C : Addr) : Prop where
  bs : ∃ bmB newId, XBase bmB newId ∧ PySem.W.excInitIn K C bmB newId = true
  hd : PySem.W.hasDictIn K C = true
  sa : PySem.W.findIn K (.ref C) "__setattr__" = some (some (.builtin "object.__setattr__"))
  exC : PySem.W.subIn K (.ref C) (.type "BaseException") = some true
  tyC : PySem.W.typeIn K (.ref C) = some (.type "type")
  kC : PySem.W.keepIn K (.ref C) = true
  ga : PySem.W.findIn K (.ref C) "__getattribute__" = some (some (.builtin "BaseException.__getattribute__"))
  gg : PySem.W.findIn K (.ref C) "__getattr__" = some none
theorem xcls_cd {K : PySem.W.Frag} {C : Addr} {bmB : List Value} {newId : String} (q : PySem.W.excInitIn K C bmB newId = true) (hd : PySem.W.hasDictIn K C = true) :
    ∃ nm N qn bs bm sn sub ab col dd k0 k1 k2 k3 k5, K.lookup C = some (excClassObj nm qn C N bs bm true sn sub ab col dd k0 k1 k2 k3 k5 newId) ∧ PySem.W.excTail bmB bm = true := by
  unfold PySem.W.excInitIn at q
  split at q
  · rename_i dd cd sl ho
    split at q
    · rename_i C' bm k0 k1 k2 k3 n k5 hm hs
      simp only [Bool.and_eq_true, beq_iff_eq, Bool.not_eq_true'] at q
      obtain ⟨⟨⟨rfl, rfl⟩, hdel⟩, ht⟩ := q
      obtain ⟨cd', hc, hd⟩ := PySem.W.any_some hd
      have e : cd' = cd := by
        unfold PySem.W.clsIn at hc
        rw [ho] at hc
        exact (Option.some.inj hc).symm
      subst e
      obtain ⟨nm, bs, mro, ns, qn, hd', sn, sub, ab, col, del⟩ := cd'
      dsimp only at hm hdel hd
      subst hm hdel hd
      have hsl : sl = #[k0, k1, k2, k3, some (.builtin n), k5] := by
        obtain ⟨l⟩ := sl
        simp only at hs
        rw [hs]
      subst hsl
      exact ⟨nm, ns, qn, bs, bm, sn, sub, ab, col, dd, k0, k1, k2, k3, k5, ho, ht⟩
    · cases q
  · cases q
section
variable {X : Cx} {pins : List (Addr × Obj)} {σ : L2.St} {H : Hp} {s : Shared} {a C dx : Addr} {f : Str} {y : V} {u : Value} {fs : List (Str × V)} {Q : Unit → Shared → Prop} {E : Value → Shared → Prop} {A : Around}
/-- self.f = y, the first one -/
theorem ost_newG (T : XCls X.K C) (I : Inv X pins σ H s) (e : H a = some (exo a C none)) (hno : PySem.W.findIn X.K (.ref C) f = some none) (ry : RelV y u)
    (h : ∀ dx s', H dx = none → dx ≠ a → Inv X pins σ (upd (upd H dx (exd dx [(f, y)])) a (exo a C (some dx))) s' → Q () s') : wpAny (model X.prog X.w) A (setAttr (.ref a) f u) Q E s := by
  obtain ⟨bmB, newId, XB, hq⟩ := T.bs
  obtain ⟨nm, N, q, bs, bm, sn, sub, ab, col, dd, k0, k1, k2, k3, k5, hC, hbm⟩ := xcls_cd hq T.hd
  have hcl : PySem.W.clsIn X.K C = some { name := nm, bases := bs, mro := .ref C :: bm, ns := N, qualname := q, hasDict := true, slotNames := sn, subclasses := sub, abstract := ab, collection := col, hasDel := false } := by unfold PySem.W.clsIn; rw [hC] <;> rfl
  obtain ⟨t1, ho⟩ := exo_at I.hok e
  obtain ⟨hp, g, d, t, os⟩ := s
  refine PySem.W.set_plain I.kIn (ox := { cls := .ref C, dict := none, data := .fields #[.ref t1, .none, .none, .none, .bool false, .none] }) (od := none) ⟨ho, rfl, rfl, trivial⟩ T.sa ?_
  refine PySem.OEG.osa_new XB.ps XB.ob I.kIn ho hcl (show PySem.W.excTail bmB (.ref C :: bm) = true from hbm) rfl rfl hno (fun h' tk' dx k dn dne hx hn => ?_)
  have hnd : H dx = none := I.hok.fresh dn
  have nd : ∀ {b : Addr} {o : Obj}, hp.get? b = some o → b ≠ dx := fun {b o} q => Nat.ne_of_lt (Nat.lt_of_lt_of_le (Heap.lt_size q) dn)
  have na : ∀ {b : Addr}, H b = none → b ≠ a := fun {b} n z => by
    rw [z, e] at n
    cases n
  have Un1 : Un X.fs [] H (upd (upd H dx (exd dx [(f, y)])) a (exo a C (some dx))) hp h' := {
    keep := fun b o q n _ _ => k b o (na n) q
    slot := fun b o q n _ _ => ⟨o.slots, k b o (na n) q⟩
    free := fun b o q n _ => by rw [upd_ne (na n), upd_ne (nd q)]; exact n
    there := fun b o q _ => by
      by_cases hb : b = a
      · exact ⟨_, by rw [hb]; exact hx⟩
      · exact ⟨o, k b o hb q⟩
    tups := fun b xs q => by rw [upd_ne (at_ne e q exo_tup), upd_ne (ne_of_none q hnd)]; exact q
    frzs := fun b o v q => by rw [upd_ne (at_ne e q exo_frz), upd_ne (ne_of_none q hnd)]; exact q
    tbls := fun b ps q => ⟨#[], by rw [upd_ne (at_ne e q exo_tbl), upd_ne (ne_of_none q hnd), q]; simp⟩ }
  refine h dx _ hnd dne (I.un (t' := tk') Un1 fun b o q => ?_)
  by_cases hb : b = a
  · subst hb
    rw [upd_same] at q
    cases q
    exact exo_ok hx
  · rw [upd_ne hb] at q
    by_cases hd : b = dx
    · subst hd
      rw [upd_same] at q
      cases q
      exact exd_ok hn (relO_put (fs := []) ry fun g => True.intro)
    · rw [upd_ne hd] at q
      exact (I.hok b o q).stay (fun c v hc z => k c v (by
          rcases hc with hc | hc
          · rw [hc]
            exact hb
          · exact at_ne e hc exo_own) z)
        (fun c hc => by rw [upd_ne (at_ne e hc exo_own), upd_ne (ne_of_none hc hnd)]; exact hc) (fun c xs hc => by rw [upd_ne (at_ne e hc exo_tup), upd_ne (ne_of_none hc hnd)]; exact hc)
end
/-- self.f = e in an __init__ -/
def tOstG (K : PySem.W.Frag) (f : Str) (to te : TE) : TS := fun D σ H => te σ H fun y H1 => to σ H1 fun x H2 => ∃ a C : Addr, x = .ref a ∧ XCls K C ∧ PySem.W.findIn K (.ref C) f = some none ∧
  (H2 a = some (exo a C none) ∧ ∀ dx, H2 dx = none → dx ≠ a → D.nx σ (upd (upd H2 dx (exd dx [(f, y)])) a (exo a C (some dx))))
theorem ps_ostG {X : Cx} {o e : Expr} {to te : TE} {f : Str} {p' pos : Pos} (ho : PE X o to) (he : PE X e te) (hs : swapsWith e (some (.Attribute o f p')) pos.line X.env = pure false := by rfl) : PS X (.Assign [.Attribute o f p'] e pos) (tOstG X.K f to te) := by
  refine ⟨fun pins s σ H D I h => ?_⟩
  refine plainObj_wpAny_Assign_Attribute (thn (he.run pins s σ H _ I h) fun v s1 ⟨y, H1, I1, r1, q1⟩ => thn (ho.run pins s1 σ H1 _ I1 q1) fun u s2 ⟨x, H2, I2, r2, a, C, ex, T, hno, ea, q⟩ => ?_) hs
  subst ex
  obtain rfl : u = Value.ref a := r2
  exact ost_newG T I2 ea hno r1 fun dx s' n ne J => ⟨σ, _, J, q dx n ne⟩
/-- the __init__ that stores its parameter -/
def spXI (K : PySem.W.Frag) (C : Addr) (f : Str) : Sp := fun vs H Q _ => ∃ (a : Addr) (y : V), vs = [.ref a, y] ∧ H a = some (exo a C none) ∧ ∀ dx, H dx = none → dx ≠ a → Q .non (upd (upd H dx (exd dx [(f, y)])) a (exo a C (some dx)))
section
variable {P : Program} {w : World} {K : PySem.W.Frag} {mg : Str → Option Value} {base : Heap}
theorem ok_xinit {CX : CXT} {qual : Str} {st : Stmt} {fI C : Addr} {fd : FuncData} {s p f : Str} {p1 p2 p3 pos : Pos} (F : Fun K "__init__" qual st fI fd) (S : FnScope [s, p] [s, p] (defScope st)) (hb : defBody st = [.Assign [.Attribute (.Name s p1) f p2] (.Name p p3) pos])
    (T : XCls K C) (hno : PySem.W.findIn K (.ref C) f = some none) (v0 : Vis (defScope st) s) (v1 : Vis (defScope st) p) (d0 : (s == ("__debug__" : Str)) = false) (d1 : (p == ("__debug__" : Str)) = false) (c0 : (s == ("__classdict__" : Str)) = false) (c1 : (p == ("__classdict__" : Str)) = false) :
    FnOk P w K mg base CX 1 fI fd [s, p] (spXI K C f) := by
  obtain ⟨oc, od, kV, doc, pm, an, cdv, ct, osl, rfl, lk, hcd⟩ := F.ex
  refine fn_of (N := [s, p]) lk hcd S (fun vs H Q E ⟨_, _, e, _⟩ => by rw [e]; rfl) fun A outer s' H vs Q E hr ⟨a, y, e, ha, hq⟩ => ?_
  subst e
  rw [hb]
  refine ⟨_, pss_one (ps_ostG (pe_var (i := 0) rfl v0 d0 c0) (pe_var (i := 1) rfl v1 d1 c1)), ?_⟩
  exact ⟨_, rfl, _, rfl, a, C, rfl, T, hno, ha, fun dx h1 h2 => hq dx h1 h2⟩
end
/-- C(e): the exception with its one attribute -/
def tMkG (C : Addr) (f : Str) (ta : TA) : L2.St → Hp → XK → Prop := fun σ H Q => ta σ H fun vs H1 => ∃ y, vs = [y] ∧ ∀ d, H1 d = none → Q (.ref C) (some d) (upd H1 d (.xd [(f, y)]))
section
variable {X : Cx} {e : Expr} {es : List Expr} {ta : TA} {f x : Str} {p pos : Pos}
theorem pmk_oexG {C fI : Addr} {k : Nat} {fd : FuncData} {ps : List Str} (T : XCls X.K C) (iC : PySem.W.findIn X.K (.ref C) "__init__" = some (some (.ref fI))) (tI : PySem.W.typeIn X.K (.ref fI) = some (.type "function"))
    (F1 : FnOk X.prog X.w X.K X.mg X.base (L2.CX X.prog X.w) k fI fd ps (spXI X.K C f)) (hr : Room (k + 1) X.A) (hb : Binds X.K fd ps []) (hg : Gl X x) (hm : X.mg x = some (.ref C)) (ha : PA X (e :: es) ta)
    (hdb : (x == ("__debug__" : Str)) = false := by decide) (he : starEach (e :: es) X.env = (false, eval e X.env) :: starEach es X.env := by rfl) (hpl : (backTo pos (starEach es X.env)).any (·.1) = false := by rfl) :
    PMk X (.Call (.Name x p) (e :: es) [] pos) (tMkG C f ta) := by
  intro pins s σ H Q I h
  obtain ⟨bmB, newId, XB, hq0⟩ := T.bs
  obtain ⟨B, initId, FB⟩ := XB.fb
  obtain ⟨nm, N, q, bs, bm, sn, sub, ab, col, dd, k0, k1, k2, k3, k5, hC, hbm⟩ := xcls_cd hq0 T.hd
  refine wpAny_Call_Name_kw (ld_glob I hg hm ?_ hdb)
  refine PySem.W.callWith_K (h₀ := X.base) I.ok.mod.kin T.kC (thn (ha.run pos pins s σ H _ I h) fun us s1 ⟨vs, H1, I1, r1, y, ev, q1⟩ => ⟨I1.kIn, ?_⟩) he hpl
  subst ev
  show wpAny _ _ (call (.ref C) us) _ _ _
  obtain ⟨hp, g, dr, tk, os⟩ := s1
  have hsz : hp.objs.size ≤ hp.objs.size + 1 := Nat.le_succ _
  have hn : H1 (hp.objs.size + 1) = none := I1.hok.fresh hsz
  have kk : ∀ b o, hp.get? b = some o → ((hp.push (PySem.W.kdv_tup us)).push (PySem.HandSPX.excO C hp.objs.size)).get? b = some o := fun b o e => Heap.get?_push_of_some _ (Heap.get?_push_of_some _ e)
  have hget : ((hp.push (PySem.W.kdv_tup us)).push (PySem.HandSPX.excO C hp.objs.size)).get? (hp.objs.size + 1) = some (PySem.HandSPX.excO C hp.objs.size) := by heap_get
  have I2 : Inv X pins σ (upd H1 (hp.objs.size + 1) (exo (hp.objs.size + 1) C none)) ⟨(hp.push (PySem.W.kdv_tup us)).push (PySem.HandSPX.excO C hp.objs.size), g, dr, tk, os⟩ :=
    I1.laid (t' := tk) (a := hp.objs.size + 1) (o := exo (hp.objs.size + 1) C none) (h' := (hp.push (PySem.W.kdv_tup us)).push (PySem.HandSPX.excO C hp.objs.size)) kk hsz (exo_ok hget)
  have hq : spXI X.K C f [V.ref (hp.objs.size + 1), y] (upd H1 (hp.objs.size + 1) (exo (hp.objs.size + 1) C none)) (fun v H2 => v = .non ∧ ∃ (d : Addr) (fs : List (Str × V)), H2 (hp.objs.size + 1) = some (exo (hp.objs.size + 1) C (some d)) ∧ H2 d = some (exd d fs) ∧ H1 d = none ∧ Q (.ref C) (some d) (upd (del H2 (hp.objs.size + 1)) d (.xd fs))) (fun _ _ _ => False) := by
    refine ⟨_, y, rfl, upd_same, fun dx h1 h2 => ⟨rfl, dx, [(f, y)], upd_same, by rw [upd_ne h2, upd_same], by rwa [upd_ne h2] at h1, ?_⟩⟩
    have ed : upd (del (upd (upd (upd H1 (hp.objs.size + 1) (exo (hp.objs.size + 1) C none)) dx (exd dx [(f, y)])) (hp.objs.size + 1) (exo (hp.objs.size + 1) C (some dx))) (hp.objs.size + 1)) dx (.xd [(f, y)]) = upd H1 dx (.xd [(f, y)]) := by
      funext b
      by_cases hb : b = dx
      · subst hb; rw [upd_same, upd_same]
      · rw [upd_ne hb, upd_ne hb]
        by_cases hc : b = hp.objs.size + 1
        · subst hc; rw [del_same, hn]
        · rw [del_ne hc, upd_ne hc, upd_ne hb, upd_ne hc]
    rw [ed]
    exact q1 dx (by rwa [upd_ne h2] at h1)
  have r2 : Vals [V.ref (hp.objs.size + 1), y] (Value.ref (hp.objs.size + 1) :: us) := .cons rfl r1
  have hl : (Value.ref (hp.objs.size + 1) :: us ++ ([] : List Value)).length = ps.length := by
    rw [List.append_nil, ← r2.length]
    exact F1.len _ _ _ _ hq
  have hus : us.length ≤ sizeLine := by
    rw [← Paired.length r1, sizeLine_eq]
    show 1 ≤ _
    omega
  have hb' := hb ⟨(hp.push (PySem.W.kdv_tup us)).push (PySem.HandSPX.excO C hp.objs.size), g, dr, tk, os⟩ (Value.ref (hp.objs.size + 1) :: us) I2.kIn hl
  rw [List.append_nil] at hb'
  refine wpAny_call (PySem.HandSPX.call_own FB (fun Y => PySem.W.excTail_contains Y bm hbm) (I1.kIn _ _ hC) (PySem.W.looks_findIn I1.kIn iC) (fun self => PySem.W.bind_fn I1.kIn self tI) hus
    (codeAny_mono (F1.run _ X.stack _ _ ⟨Value.ref (hp.objs.size + 1) :: us, []⟩ (Value.ref (hp.objs.size + 1) :: us) _ _ (fun _ _ _ => False) (hr.make C us []) (I2.env0.make C us []) hb' r2 hq) fun r s' hq' => ?_))
  cases r with
  | error er => obtain ⟨_, _, _, _, _, _, _, _, _, _, _, _, z⟩ := hq'; exact z.elim
  | ok fl =>
    cases fl with
    | ret u =>
      obtain ⟨v, H2, os2, bare2, un2, hok2, rv, ev, d, fs, ea, ed, hd1, q2⟩ := hq'
      subst ev
      obtain ⟨h2, g2, d2, t2, os'⟩ := s'
      exact ⟨rv, mk_end (raises_own T.exC T.tyC) I1 hsz kk un2 hok2 os2 bare2 ea ed hd1 q2⟩
    | next => exact False.elim hq'
    | brk => exact False.elim hq'
    | cont => exact False.elim hq'
end
end DL


set_option maxHeartbeats 4000000
/-! DL29: try with several clauses; the exception in a suite is a value. -/
namespace DL
open PySem PySem.Spec PyProof.Rows L2
theorem flyingZ_keeps {B : Heap} {l : List PySem.Env} {a : Addr} {Z : Obj → Prop} {h h' : Heap} (f : HandSPX.FlyingZ B l a Z h) (k : ∀ b o, h.get? b = some o → h'.get? b = some o) : HandSPX.FlyingZ B l a Z h' := by
  obtain ⟨f1, f2, f3, oe, vs, T, oT, ts, he, hz, hd, h1, hn, hne, hT, hdT, h3⟩ := f
  exact ⟨fun b o q => k b o (f1 b o q), f2, f3.of_keeps fun b o q _ => ⟨o, k b o q, rfl⟩, oe, vs, T, oT, ts, k _ _ he, hz, hd, h1, hn, hne, k _ _ hT, hdT, h3⟩
theorem sky_none {B : Heap} {l : List PySem.Env} {a L : Addr} {Z : Obj → Prop} {h : Heap} (s : Sky B l a Z L h) : B.get? a = none := by
  rcases s with ⟨_, q, _⟩ | ⟨_, q, _⟩ | ⟨_, q, _⟩ <;> exact q
theorem exO_ok' {P : Program} {w : World} {H : Hp} {h : Heap} {a : Addr} {cls : Value} {d : Option Addr} {oe : Obj} {vs : Array Value} (e : h.get? a = some oe) (z : Zc cls d oe) (q : oe.data = .fields vs) : ObjOk P w H h a (DL.ExO cls d a) :=
  ⟨⟨oe, vs, e, z, q⟩, ⟨oe, e⟩, fun _ _ ⟨o, v, q, r⟩ k => ⟨o, v, k o q, r⟩⟩
section
variable {X : Cx} {pins : List (Addr × Obj)} {σ : L2.St} {H : Hp} {s sI : Shared} {a : Addr} {cls : Value} {d : Option Addr}
/-- into an except suite, the exception told -/
theorem inv_suiteT {oe : Obj} {vs : Array Value} (I : Inv X pins σ H s) (J : Inv X pins σ H sI) (ha : s.heap.get? a = some oe) (hz : Zc cls d oe) (hd : oe.data = .fields vs) (na : H a = none) (n0 : sI.heap.get? a = none) (nL : a ≠ X.env.locals) :
    Inv (X.suite a (X.pn ++ pins)) [] σ (upd H a (DL.ExO cls d a)) s := by
  have ne0 : ∀ b o, X.s_0.heap.get? b = some o → b ∉ X.ex → b ≠ a := fun b o e hx z => by
    obtain ⟨o', e'⟩ := J.base.there b o e hx
    rw [z, n0] at e'
    cases e'
  have neH : ∀ {b u}, H b = some u → b ≠ a := fun {b u} e z => by
    rw [z, na] at e
    cases e
  refine ⟨I.ok.suite _ _, I.os, I.bare, ⟨I.base.keep, I.base.slot, fun b o e n hx => ?_, I.base.there, fun b xs e => ?_, fun b o u e => ?_, fun b ps e => ?_⟩, I.loc, I.cell, ?_, fun x c e => ?_, fun p hp => ?_, fun b u e => ?_, I.len⟩
  · rw [upd_ne (ne0 b o e hx)]; exact I.base.free b o e n hx
  · have q := I.base.tups b xs e
    rw [upd_ne (neH q)]; exact q
  · have q := I.base.frzs b o u e
    rw [upd_ne (neH q)]; exact q
  · obtain ⟨m, q⟩ := I.base.tbls b ps e
    exact ⟨m, by rw [upd_ne (neH q)]; exact q⟩
  · show upd H a _ X.env.locals = none
    rw [upd_ne (Ne.symm nL)]; exact I.free
  · have hc : c ≠ a := fun z => by
      obtain ⟨v, o, ho, hdc⟩ := I.cell x c e
      rw [z, ha] at ho
      cases ho
      rw [hd] at hdc
      cases hdc
    rw [upd_ne hc]; exact I.freeC x c e
  · have hp' : p ∈ X.pn ++ pins := by simpa using hp
    obtain ⟨e, n, ne, nf, q⟩ := I.pin p hp'
    have hne : p.1 ≠ a := fun z => by
      have e' := (J.pin p hp').1
      rw [z, n0] at e'
      cases e'
    exact ⟨e, by rw [upd_ne hne]; exact n, ne, nf, q⟩
  · by_cases hb : b = a
    · subst hb
      rw [upd_same] at e
      cases e
      exact exO_ok' ha hz hd
    · rw [upd_ne hb] at e
      exact (I.hok b u e).stay (fun c v _ q => q) (fun c q => by rw [upd_ne (neH q)]; exact q) fun c xs q => by rw [upd_ne (neH q)]; exact q
theorem inv_unsuiteT {pn' : List (Addr × Obj)} (I : Inv (X.suite a (X.pn ++ pins)) pn' σ H s) (ok : X.Ok) : Inv X pins σ H s :=
  ⟨ok, I.os, I.bare, I.base, I.loc, I.cell, I.free, I.freeC, fun p hp => I.pin p (List.mem_append_left _ hp), I.hok, I.len⟩
end
/-! ### the classes that a clause names -/
/-- the value that a name of a class has -/
def CvOf (mg : Str → Option Value) (x : Str) (c : Value) : Prop := mg x = some c ∨ (mg x = none ∧ bootBuiltins x = some c)
theorem CvOf.uniq {mg : Str → Option Value} {x : Str} {c c' : Value} (h : CvOf mg x c) (h' : CvOf mg x c') : c = c' := by
  rcases h with h | ⟨h1, h2⟩ <;> rcases h' with q | ⟨q1, q2⟩
  · rw [h] at q; exact Option.some.inj q
  · rw [h] at q1; cases q1
  · rw [h1] at q; cases q
  · rw [h2] at q2; exact Option.some.inj q2
/-- which exceptions each clause takes: (class, name in the clause, whether) -/
abbrev XTab := List (Str × Str × Bool)
def XTabOk (K : PySem.W.Frag) (mg : Str → Option Value) (t : XTab) : Prop := ∀ p ∈ t, ∀ c n, CvOf mg p.1 c → CvOf mg p.2.1 n → PySem.W.exmOne K c n = some p.2.2
def XTab.look (t : XTab) (C N : Str) : Option Bool := (t.find? fun p => p.1 == C && p.2.1 == N).map (·.2.2)
def XTab.any (t : XTab) (C : Str) : List Str → Option Bool
  | [] => some false
  | N :: r => match t.look C N, t.any C r with
    | some a, some b => some (a || b)
    | _, _ => none
theorem XTab.look_ok {K : PySem.W.Frag} {mg : Str → Option Value} {t : XTab} (h : XTabOk K mg t) {C N : Str} {b : Bool} (e : t.look C N = some b) {c n : Value} (hc : CvOf mg C c) (hn : CvOf mg N n) : PySem.W.exmOne K c n = some b := by
  unfold XTab.look at e
  cases q : t.find? fun p => p.1 == C && p.2.1 == N with
  | none => rw [q] at e; cases e
  | some p =>
    rw [q] at e
    cases e
    have hm := List.mem_of_find?_eq_some q
    have z := List.find?_some q
    simp only [Bool.and_eq_true, beq_iff_eq] at z
    exact h p hm c n (by rw [z.1]; exact hc) (by rw [z.2]; exact hn)
/-- the value that the name x in a clause tells -/
def NameV (X : Cx) (x : Str) (c : Value) : Prop := Names X x c
theorem NameV.cv {X : Cx} {x : Str} {c : Value} (h : NameV X x c) : CvOf X.mg x c := h.2.2.imp id fun q => ⟨q.1, q.2.1⟩
inductive NamesV (X : Cx) : List Str → List Value → Prop
  | nil : NamesV X [] []
  | cons {x : Str} {c : Value} {xs : List Str} {cs : List Value} : NameV X x c → NamesV X xs cs → NamesV X (x :: xs) (c :: cs)
theorem XTab.any_ok {X : Cx} {t : XTab} (h : XTabOk X.K X.mg t) {C : Str} {c : Value} (hc : CvOf X.mg C c) : ∀ {xs : List Str} {cs : List Value} {b : Bool}, NamesV X xs cs → t.any C xs = some b → PySem.W.exmAny X.K c cs = some b
  | [], _, b, .nil, e => by cases e; rfl
  | N :: r, _, b, .cons hn hr, e => by
    unfold XTab.any at e
    split at e
    · rename_i u v h1 h2
      cases e
      unfold PySem.W.exmAny
      rw [t.look_ok h h1 hc hn.cv, t.any_ok h hc hr h2]
    · cases e
/-- the test of a clause -/
def TestX (X : Cx) (t : Expr) (xs : List Str) : Prop := ∃ cs, NamesV X xs cs ∧ ∀ (a : Addr) (pn pins : List (Addr × Obj)) (σ : L2.St) (H : Hp) (s : Shared) (cls : Value) (b : Bool) (Q : Bool → Shared → Prop) (E : Value → Shared → Prop),
  PySem.W.exmAny X.K cls cs = some b → Inv (X.suite a pn) pins σ H s → PySem.W.Looks (model X.prog X.w) s.heap (typeOf (.ref a)) cls → (∀ h', (∀ q o, s.heap.get? q = some o → h'.get? q = some o) → Q b { s with heap := h' }) →
    wpAny (model X.prog X.w) (X.A.mark (some (.ref a))) (eval t X.env) (fun c s1 => wpAny (model X.prog X.w) (X.A.mark (some (.ref a))) (excMatches (.ref a) c) Q E s1) E s
section
variable {X : Cx} {x x1 x2 x3 : Str} {p p1 p2 p3 : Pos} {kk : Nat}
theorem name_ev {c : Value} {a : Addr} {pn pins : List (Addr × Obj)} {σ : L2.St} {H : Hp} {s : Shared} {Q : Value → Shared → Prop} {E : Value → Shared → Prop} (hc : NameV X x c) (S : Inv (X.suite a pn) pins σ H s) (q : Q c s) :
    wpAny (model X.prog X.w) (X.A.mark (some (.ref a))) (eval (.Name x p) X.env) Q E s := by
  obtain ⟨hg, hdbg, hm | ⟨hm, hv, hnn⟩⟩ := hc
  · exact ld_glob (X := X.suite a pn) S hg hm q hdbg
  · exact ld_blt (X := X.suite a pn) S hg hm hv q hnn hdbg
theorem test_2 (h1 : ∃ c, NameV X x1 c) (h2 : ∃ c, NameV X x2 c) : TestX X (.Tuple [.Name x1 p1, .Name x2 p2] kk p) [x1, x2] := by
  obtain ⟨c1, h1⟩ := h1
  obtain ⟨c2, h2⟩ := h2
  refine ⟨[c1, c2], .cons h1 (.cons h2 .nil), fun a pn pins σ H s cls b Q E he S LT q => ?_⟩
  refine wpAny_Tuple ?_
  refine wpAny_items_cons (name_ev h1 S ?_)
  refine wpAny_items_cons (name_ev h2 S ?_)
  refine wpAny_items_nil ⟨by size_fits, ?_⟩
  have kp : ∀ q o, s.heap.get? q = some o → (s.heap.push { cls := .type "tuple", data := .seq [c1, c2].toArray }).get? q = some o := fun _ _ z => Heap.get?_push_of_some _ z
  exact (PySem.W.exm_tup2 (S.kIn.keeps kp) (LT.keeps kp) (Heap.get?_push_size s.heap rfl) he).here (q _ kp)
end

/-! ### the rule -/
/-- what a suite's context gives -/
structure CxH (X : Cx) (k : Nat) : Prop where
  gd : X.A.guards = some []
  rh : L2H.RoomH k X.A
theorem CxH.u64 {X : Cx} {k : Nat} (c : CxH X k) : X.A.units + 64 < cLine := by have := c.rh.un; omega
theorem CxH.u1 {X : Cx} {k : Nat} (c : CxH X k) : X.A.units + 1 < cLine := by have := c.u64; omega
structure Hd where
  cs : List Str
  i : Option Nat
  v : SM
def mHs (t : XTab) (ow : List Str) (x : Exn) : List Hd → SM
  | [], ρ => ex x ρ
  | h :: r, ρ => match t.any x.cls h.cs with
    | some true => match h.i with
      | none => (h.v ρ).bind fun r => match r.1 with
        | .ex _ => M.bad
        | f => M.one (f, r.2)
      | some i => if ow.contains x.cls then (h.v (ρ.set i (some (.d (.exc x.cls x.fs))))).bind fun r => match r.1 with
        | .rt s => M.one (.rt s, r.2)
        | _ => M.bad
        else M.bad
    | some false => mHs t ow x r ρ
    | none => M.bad
def tryM (t : XTab) (ow : List Str) (l : List Hd) (m : MS) : MS := m.bind fun r => match r.1 with
  | .ex x => mHs t ow x l r.2
  | f => M.one (f, r.2)
def mTry (t : XTab) (ow : List Str) (u : SM) (l : List Hd) : SM := fun ρ => tryM t ow l (u ρ)
def NmOk (X : Cx) : Option Str → Option Nat → Prop
  | none, none => True
  | some n, some i => X.N[i]? = some n ∧ X.env.kindOf n = some .local
  | _, _ => False
inductive HdQ (X : Cx) (G : Gx) (k : Nat) : List ExceptHandler → List Hd → Prop
  | nil : HdQ X G k [] []
  | cons {te : Expr} {xs : List Str} {b₀ : Stmt} {suite : List Stmt} {nm : Option Str} {i : Option Nat} {v : SM} {pos' : Pos} {hds : List ExceptHandler} {l : List Hd} (ht : TestX X te xs) (hn : NmOk X nm i)
      (hsu : ∀ (a : Addr) (pn : List (Addr × Obj)), CxH (X.suite a pn) k → QSs (X.suite a pn) G noT (b₀ :: suite) v) (r : HdQ X G k hds l) : HdQ X G k (.ExceptHandler (some te) nm (b₀ :: suite) pos' :: hds) (⟨xs, i, v⟩ :: l)
theorem rmH_mark {k : Nat} {A : Around} (r : Room k A) (h : Option Value) : L2H.RoomH k (A.mark h) := ⟨r.dp, r.un⟩
/-- a thrown exception as a value -/
theorem exAt_dn {K : PySem.W.Frag} {W : Wd} {H : Hp} {x : Exn} {c : Value} {d : Option Addr} {a Ca : Addr} (e : ExAt K W H x c d) (hC : W.g x.cls = some (.ref Ca)) (hF : ∀ b, W.F b → H b ≠ none) (na : H a = none) : Dn K (W.add a) (upd H a (ExO c d a)) (.exc x.cls x.fs) (.ref a) := by
  have l : Le W H (W.add a) (upd H a (ExO c d a)) := .add fun b q => upd_ne fun z => hF b q (by rw [z]; exact na)
  obtain ⟨hc, hd⟩ := e
  have ec : c = .ref Ca := by
    rcases hc with q | ⟨q, _⟩
    · rw [hC] at q; exact (Option.some.inj q).symm
    · rw [hC] at q; cases q
  subst ec
  rcases hd with ⟨rfl, ef⟩ | ⟨b, vs, rfl, hb, e1, e2⟩
  · rw [ef]; exact .exc0 (.inr rfl) hC upd_same
  · exact .exc (.inr rfl) (.inl hb) hC upd_same ((l.k b hb).trans e1) (e2.le l)
section
variable {X : Cx} {G : Gx} {T : WX} {body : List Stmt} {hds : List ExceptHandler} {l : List Hd} {h₀ : ExceptHandler} {u : SM} {pos : Pos} {t : XTab} {ow : List Str} {k : Nat}
theorem qs_try (C : CxG X T k) (hG : G.W.g = X.mg) (ht : XTabOk X.K X.mg t) (how : ∀ c ∈ ow, ∃ Ca, X.mg c = some (.ref Ca))
    (hb : ∀ (T' : WX) (pn : List (Addr × Obj)) (xe : Value → Shared → Prop), CxG (X.tr pn xe) T' k → QSs (X.tr pn xe) G T' body u) (hh : HdQ X G k (h₀ :: hds) l)
    (hN : X.N.Nodup) (hs : X.stack = X.env :: X.outer := by rfl) (hf : X.env.frame = some X.env.locals := by rfl) : QS X G T (.Try body (h₀ :: hds) [] [] pos) (mTry t ow u l) := by
  refine ⟨fun pins s σ H D I ⟨W, ρ, E, oks, h, hnx, hrt, hbk, hct, hex⟩ => ?_⟩
  have ok := I.ok
  have hfr : X.A.frames = some (X.env :: X.outer) := by rw [ok.frames, hs]
  have h : (u ρ.sl).wp ρ.mm fun r μ => (match r.1 with | .ex x => mHs t ow x l r.2 | f => M.one (f, r.2)).wp μ (flC E) := h
  -- what the clauses wish of an exception of the body
  let T' : WX := fun cls d σ' H' => ∃ x ρ' W', (mHs t ow x l ρ'.sl).wp ρ'.mm (flC E) ∧ Ok X.K G W' ρ' σ' H' ∧ Le W H W' H' ∧ ExAt X.K W' H' x cls d
  have hbody : lS X.K G T' (ts u) D σ H := by
    refine ⟨W, ρ, ⟨E.nx, E.rt, E.bk, E.ct, fun x ρ' => (mHs t ow x l ρ'.sl).wp ρ'.mm (flC E)⟩, oks, ?_, hnx, hrt, hbk, hct, fun x ρ' W' σ' H' c dx z o l' e => ⟨x, ρ', W', z, o, l', e⟩⟩
    exact (u ρ.sl).mono (fun r μ q => by
      obtain ⟨r1, r2⟩ := r
      cases r1 <;> exact q) h
  refine wpAny_Try_except ?_
  refine wpAny_mono ((hb T' (X.pn ++ pins) (fun e s₁ => wpAny (model X.prog X.w) X.A (noteFrame e X.env) (fun _ s₂ => wpAny (model X.prog X.w) X.A (setFlight e none) (fun _ s₃ =>
    wpAny (model X.prog X.w) X.A (handleBy e X.env (h₀ :: hds)) (SP X pins D) X.xe s₃) X.xe s₂) X.xe s₁) ⟨fun u' s' xx => ?_, C.gd, C.rm, PassesOwn.looking⟩).run [] s σ H D (I.toTry _) hbody) (fun f s1 hsp => ?_) (fun e s1 he => he)
  · -- the catch
    obtain ⟨a, B, sI, pins', σ', H', cls, d, rfl, J', nb, up, sky, na, os, ag, w⟩ := xx
    have J : Inv X pins σ' H' sI := J'.ofTry ok
    have sky' : Sky B (X.env :: X.outer) a (Zc cls d) X.env.locals s'.heap := by rw [← hs]; exact sky
    have hBa := sky_none sky'
    show wpAny (model X.prog X.w) X.A (noteFrame (.ref a) X.env) _ _ _
    refine Sky.land Zc.steady hfr hf sky' fun h3 fl3 up3 => ?_
    have J3 : Inv X pins σ' H' { s' with heap := h3 } := J.landed nb fl3.1 (up.trans up3) os ag
    obtain ⟨oe3, vs3, he3, hz3, hd3⟩ := fl3.there
    have notFr : ∀ {h : Heap} {o : Obj} {vs : Array Value}, h.FunFrames B (X.env :: X.outer) → h.get? a = some o → o.data = .fields vs → a ∉ frs (X.env :: X.outer) := fun {h o vs} ff e dd hm => by
      obtain ⟨_, o', e', hnf⟩ := ff.mem hm
      rw [e] at e'; cases e'
      exact hnf _ dd
    have nfr := notFr fl3.2.2.1 he3 hd3
    have nL : a ≠ X.env.locals := fun z => nfr (List.mem_filterMap.mpr ⟨X.env, List.mem_cons_self, by rw [hf, z]⟩)
    have nI : sI.heap.get? a = none := by
      cases q : sI.heap.get? a with
      | none => rfl
      | some o =>
        have z := nb a o q (by rw [hs]; exact nfr)
        rw [hBa] at z
        cases z
    obtain ⟨x, ρ', W', hw, ok', le', ex'⟩ := w
    have gW : W'.g = X.mg := (ok'.en.le.g).trans hG
    have cvx : CvOf X.mg x.cls cls := by
      have q := ex'.1
      unfold Wd.cv at q
      rw [gW] at q
      exact q
    have okA := Go.newF (o := ExO cls d a) ok' na
    have go : ∀ {hds' : List ExceptHandler} {l' : List Hd}, HdQ X G k hds' l' → (mHs t ow x l' ρ'.sl).wp ρ'.mm (flC E) → ∀ hc, HandSPX.FlyingZ B (X.env :: X.outer) a (Zc cls d) hc → s'.heap.UpToSlots hc →
        wpAny (model X.prog X.w) X.A (handleBy (.ref a) X.env hds') (SP X pins D) X.xe { s' with heap := hc } := by
      intro hds' l' hk
      induction hk with
      | nil =>
        intro w hc flc upc
        refine wpAny_handleBy_nil ?_
        obtain ⟨k1, k2, k3, oe, vs, T0, oT, ts', he, hz, hd, h1, hr⟩ := id flc
        unfold PySem.passOn
        refine wpAny_bind (wpAny_field he hd h1 ?_)
        rw [if_neg (show ¬ ((Value.ref T0 == Value.none) = true) from by simp)]
        have fin : wpAny (model X.prog X.w) X.A (setFlight (.ref a) X.env.frame) (fun _ s4 => wpAny (model X.prog X.w) X.A (throw (.ref a) : Sem Flow) (SP X pins D) X.xe s4) X.xe { s' with heap := hc } := by
          rw [hf]
          refine HandSPX.setFlight_upZ flc fun h4 hh4 up4 => wpAny_throw (C.tk _ _ ?_)
          exact ⟨a, B, sI, pins, σ', H', cls, d, rfl, J, nb, up.trans (upc.trans up4), .inr (.inr (by rw [hs]; exact hh4)), na, os, ag, hex x ρ' W' σ' H' cls d w ok' le' ex'⟩
        first
          | exact wpAny_bind (wpAny_pure (wpAny_bind fin))
          | exact wpAny_bind fin
      | @cons te xs b₀ suite nm i v pos' hds2 l2 htest hn hsu r ih =>
        intro w hc flc upc
        have Jc : Inv X pins σ' H' { s' with heap := hc } := J.landed nb flc.1 (up.trans upc) os ag
        obtain ⟨oec, vsc, hec, hzc, hdc⟩ := flc.there
        have Sc := inv_suiteT Jc J hec hzc hdc na nI nL
        obtain ⟨cs, hcs, htr⟩ := htest
        have LT : PySem.W.Looks (model X.prog X.w) hc (typeOf (.ref a)) cls := fun A Q E s k q => wpAny_typeOf_ref (k _ _ hec) (by rw [hzc.1]; exact q)
        unfold mHs at w
        cases hb1 : t.any x.cls xs with
        | none => rw [hb1] at w; exact w.elim
        | some b =>
          rw [hb1] at w
          have hex1 := t.any_ok ht cvx hcs hb1
          refine wpAny_handleBy_cons (codeAny_handlers_test ?_) (by intro q; cases q)
          refine htr a _ _ _ _ _ cls b _ _ hex1 Sc LT fun h' kp => ?_
          have flk : HandSPX.FlyingZ B (X.env :: X.outer) a (Zc cls d) h' := flyingZ_keeps flc kp
          have upk : s'.heap.UpToSlots h' := upc.trans (Heap.UpToSlots.of_keeps kp)
          cases b with
          | false => exact ih w h' flk upk
          | true =>
            have H2 : CxH (X.suite a (X.pn ++ pins)) k := ⟨C.gd, rmH_mark C.rm _⟩
            have Q2 := hsu a (X.pn ++ pins) H2
            cases nm with
            | none =>
              cases i with
              | some i => exact hn.elim
              | none =>
                refine codeAny_handlers_suite ?_
                refine HandSPX.lands_againZ flk fun h4 fl4 up4 => ?_
                have J4 : Inv X pins σ' H' { s' with heap := h4 } := J.landed nb fl4.1 (up.trans (upk.trans up4)) os ag
                obtain ⟨oe4, vs4, he4, hz4, hd4⟩ := fl4.there
                have S4 := inv_suiteT J4 J he4 hz4 hd4 na nI nL
                have hs4 : lS (X.suite a (X.pn ++ pins)).K G noT (ts v) D σ' (upd H' a (ExO cls d a)) := by
                  refine ⟨W'.add a, ρ', ⟨E.nx, E.rt, E.bk, E.ct, fun _ _ => False⟩, okA.ok, ?_, hnx.le (le'.trans okA.stp.le), hrt.le (le'.trans okA.stp.le), hbk.le (le'.trans okA.stp.le), hct.le (le'.trans okA.stp.le), fun _ _ _ _ _ _ _ z => z.elim⟩
                  have w : (v ρ'.sl).wp ρ'.mm fun r μ => (match r.1 with | .ex _ => M.bad | f => M.one (f, r.2)).wp μ (flC E) := w
                  exact (v ρ'.sl).mono (fun r μ q => by
                    obtain ⟨r1, r2⟩ := r
                    cases r1 <;> exact q) w
                refine wpAny_mono (Q2.run [] _ σ' _ D S4 hs4) (fun f s6 hsp => ?_) (fun _ _ z => False.elim z)
                cases f with
                | next =>
                  obtain ⟨σ6, H6, S6, q6⟩ := hsp
                  exact ⟨_, _, inv_unsuiteT S6 ok, q6⟩
                | brk =>
                  obtain ⟨σ6, H6, S6, q6⟩ := hsp
                  exact ⟨_, _, inv_unsuiteT S6 ok, q6⟩
                | cont =>
                  obtain ⟨σ6, H6, S6, q6⟩ := hsp
                  exact ⟨_, _, inv_unsuiteT S6 ok, q6⟩
                | ret u =>
                  obtain ⟨v6, σ6, H6, S6, r6, q6⟩ := hsp
                  exact ⟨_, _, _, inv_unsuiteT S6 ok, r6, q6⟩
            | some n =>
              cases i with
              | none => exact hn.elim
              | some i =>
                obtain ⟨hi, hln⟩ := hn
                have hloc : Loc X.env.scope n := .inl hln
                refine codeAny_handlers_suite_as ?_
                refine HandSPX.lands_againZ flk fun h4 fl4 up4 => ?_
                have J4 : Inv X pins σ' H' { s' with heap := h4 } := J.landed nb fl4.1 (up.trans (upk.trans up4)) os ag
                obtain ⟨oe4, vs4, he4, hz4, hd4⟩ := fl4.there
                have S4 := inv_suiteT J4 J he4 hz4 hd4 na nI nL
                have w : (if ow.contains x.cls then (v (ρ'.sl.set i (some (.d (.exc x.cls x.fs))))).bind fun r => (match r.1 with | .rt s => M.one (.rt s, r.2) | _ => M.bad : MS) else M.bad).wp ρ'.mm (flC E) := w
                by_cases hown : ow.contains x.cls = true
                · rw [if_pos hown] at w
                  obtain ⟨Ca, hCa⟩ := how x.cls (by simpa using hown)
                  have dn := exAt_dn (a := a) ex' (by rw [gW]; exact hCa) (fun b hb z => by obtain ⟨o, e⟩ := ok'.al.f b hb; rw [z] at e; cases e) na
                  refine store_ok (X := X.suite a (X.pn ++ pins)) (v := .ref a) S4 hN hi hloc rfl (fun s5 S5 => ?_) (.inr hln)
                  have hs5 : lS (X.suite a (X.pn ++ pins)).K G noT (ts v) ⟨fun _ _ => False, D.rt, fun _ _ => False, fun _ _ => False⟩ (σ'.set i (some (.ref a))) (upd H' a (ExO cls d a)) := by
                    refine ⟨W'.add a, ρ'.set i (some (.d (.exc x.cls x.fs))), ⟨fun _ => False, E.rt, fun _ => False, fun _ => False, fun _ _ => False⟩, okA.ok.set (i := i) (d := .d _) dn (fun o => by cases o), ?_, fun _ _ _ _ z => z.elim, hrt.le (le'.trans okA.stp.le), fun _ _ _ _ z => z.elim, fun _ _ _ _ z => z.elim, fun _ _ _ _ _ _ _ z => z.elim⟩
                    exact (v _).mono (fun r μ q => by
                      obtain ⟨r1, r2⟩ := r
                      cases r1 <;> exact q) w
                  refine wpAny_mono (Q2.run [] s5 _ _ _ S5 hs5) (fun f s6 hsp => ?_) (fun _ _ z => False.elim z)
                  cases f with
                  | next => obtain ⟨_, _, _, z⟩ := hsp; exact z.elim
                  | brk => obtain ⟨_, _, _, z⟩ := hsp; exact z.elim
                  | cont => obtain ⟨_, _, _, z⟩ := hsp; exact z.elim
                  | ret u =>
                    obtain ⟨v6, σ6, H6, S6, r6, q6⟩ := hsp
                    exact gone_ok (inv_unsuiteT S6 ok) hN hi hln fun s7 J7 => ⟨_, _, _, J7, r6, q6⟩
                · rw [if_neg hown] at w; exact w.elim
    exact go hh hw h3 fl3 up3
  · cases f with
    | next =>
      obtain ⟨σ', H', J', q⟩ := hsp
      exact wpAny_execs_nil ⟨σ', H', J'.ofTry ok, q⟩
    | brk =>
      obtain ⟨σ', H', J', q⟩ := hsp
      exact ⟨σ', H', J'.ofTry ok, q⟩
    | cont =>
      obtain ⟨σ', H', J', q⟩ := hsp
      exact ⟨σ', H', J'.ofTry ok, q⟩
    | ret u =>
      obtain ⟨v, σ', H', J', r, q⟩ := hsp
      exact ⟨v, σ', H', J'.ofTry ok, r, q⟩
end
end DL


set_option maxHeartbeats 4000000
/-! DL30: raise, an exception's attribute, isinstance of an exception, calls within an except suite. -/
namespace DL
open PySem PySem.Spec PyProof.Rows L2
/-! ### classes of exceptions -/
def XK1 (K : PySem.W.Frag) (mg : Str → Option Value) (C f : Str) : Prop :=
  ∃ Ca fI fd s p, mg C = some (.ref Ca) ∧ XCls K Ca ∧ PySem.W.findIn K (.ref Ca) "__init__" = some (some (.ref fI)) ∧ PySem.W.typeIn K (.ref fI) = some (.type "function") ∧ Binds K fd [s, p] [] ∧
    ∀ (P : Program) (w : World) (base : Heap), FnOk P w K mg base (L2.CX P w) 1 fI fd [s, p] (spXI K Ca f)
/-- instances of the class, told as exceptions -/
structure XIns (K : PySem.W.Frag) (C : Addr) : Prop where
  hd : PySem.W.hasDictIn K C = true
  ga : PySem.W.findIn K (.ref C) "__getattribute__" = some (some (.builtin "BaseException.__getattribute__"))
  gg : PySem.W.findIn K (.ref C) "__getattr__" = some none
  exC : PySem.W.subIn K (.ref C) (.type "BaseException") = some true
  ha : PySem.W.findIn K (.ref C) "__class__" = some (some (.builtin "object.__class__"))
  hn : PySem.W.specialIn K (.builtin "object.__class__") "__get__" = some (some (.builtin "getset_descriptor.__get__"))
  ht : PySem.W.takesIn K (.builtin "object.__class__") = some true
  hm : PySem.W.mroIn K C (.type "object") = some true
/-- the attributes of which classes may be read -/
def XFldOk (K : PySem.W.Frag) (mg : Str → Option Value) (t : List (Str × Str)) : Prop := ∀ p ∈ t, ∃ Ca, mg p.1 = some (.ref Ca) ∧ XIns K Ca ∧ PySem.W.findIn K (.ref Ca) p.2 = some none
/-- isinstance of which classes -/
def XIsOk (K : PySem.W.Frag) (mg : Str → Option Value) (t : XTab) : Prop := ∀ p ∈ t, ∃ Ca, mg p.1 = some (.ref Ca) ∧ XIns K Ca ∧ ∀ n, CvOf mg p.2.1 n → PySem.W.kitOne K (.ref Ca) n = some p.2.2
/-! ### raise -/
def mRaise1 (C f : Str) (w : EM S) : SM := fun ρ => bindES (w ρ) fun d ρ1 => ex ⟨C, [(f, d.frz)]⟩ ρ1
section
variable {X : Cx} {G : Gx} {T : WX} {e a : Expr} {w ma : EM S} {C f N : Str} {p pos pos' p2 : Pos} {k : Nat}
theorem qs_raise1 (Cx : CxG X T k) (hG : G.W.g = X.mg) (F : XK1 X.K X.mg C f) (hk : 2 ≤ k) (ha : QE X G T e w) (hc : X.calm = true := by rfl) (hg : Gl X C := by rfl) (hdb : (C == ("__debug__" : Str)) = false := by decide)
    (he : starEach [e] X.env = (false, eval e X.env) :: starEach [] X.env := by rfl) (hpl : (backTo pos (starEach [] X.env)).any (·.1) = false := by rfl) :
    QS X G T (.Raise (some (.Call (.Name C p) [e] [] pos)) none pos') (mRaise1 C f w) := by
  obtain ⟨Ca, fI, fd, s, q, hm, XC, h1, h2, h3, F⟩ := F
  have hA : PA X [e] (lA X.K G T (wCons (tw w) wNil)) := da_cons ha da_nil he
  refine ps_weak (ps_raise hc Cx.tk (pmk_oexG (k := 1) XC h1 h2 (F X.prog X.w X.base) (Cx.rm.mono hk) h3 hg hm hA hdb he hpl)) fun D σ H ⟨W, ρ, E, ok, h, _, _, _, _, hex⟩ => ?_
  have h : (bindES (w ρ.sl) fun d ρ1 => ex ⟨C, [(f, d.frz)]⟩ ρ1).wp ρ.mm (flC E) := h
  rw [twS] at h
  refine ⟨W, ρ, fun ds ρ' => ∃ d, ds = [d] ∧ E.ex ⟨C, [(f, d)]⟩ ρ', fun x ρ' => E.ex x ρ', ok, ?_, fun ds ρ1 W1 xs H1 ⟨d, e1, e2⟩ g1 da => ?_, fun x ρ' W' H' c dx z g' e' => hex x ρ' W' σ H' c dx z g'.ok g'.stp.le e'⟩
  · show tw w E.ex ρ fun s ρ1 => ∃ d, [s.frz] = [d] ∧ _
    exact (w ρ.sl).mono (fun r μ q => by
      obtain ⟨r1, r2⟩ := r
      cases r1 with
      | v s => exact ⟨s.frz, rfl, q⟩
      | x z => exact q) h
  · subst e1
    obtain ⟨y, ey, dy⟩ := da.one
    subst ey
    refine ⟨y, rfl, fun dx hn => ?_⟩
    have g2 := g1.trans (Go.newF (o := .xd [(f, y)]) g1.ok hn)
    have l2 := (Go.newF (o := .xd [(f, y)]) g1.ok hn).stp.le
    exact hex _ ρ1 _ σ _ _ _ e2 g2.ok g2.stp.le ⟨.inl (by rw [g2.ok.en.le.g, hG]; exact hm), .inr ⟨dx, [(f, y)], rfl, .inr rfl, upd_same, .cons (dy.le l2) .nil⟩⟩
/-! ### an exception's attribute -/
/-! ### isinstance of an exception -/
end
/-! ### calls within an except suite -/
section
variable {P : Program} {w : World} {K : PySem.W.Frag} {mg : Str → Option Value} {base : Heap}
end
section
variable {X : Cx} {G : Gx} {T : WX} {k j : Nat} {ps : List Str} {f : FM}
end
end DL


set_option maxHeartbeats 4000000
/-! DL31: a lambda without parameters handed to a def. -/
namespace DL
open PySem PySem.Spec PyProof.Rows L2 LamX
/-- what f(), f a lambda told at s0, comes to -/
structure LamG (P : Program) (w : World) (K : PySem.W.Frag) (mg : Str → Option Value) (base : Heap) (outer : List PySem.Env) (f : Addr) (j : Nat) (s0 : Shared) (H0 : Hp) (W0 : Wd) (m : M (Oc S)) : Prop where
  obj : ∃ q params body scope cl pm c' ctv, s0.heap.get? f = some (PySem.W.kla_obj "<lambda>" q params body scope cl pm c' ctv)
  hn : H0 f = none
  fr : f ∉ frs outer
  run : ∀ (A' : Around) (env' : PySem.Env) (s' : Shared) (H' : Hp) (W' : Wd) (μ : Mem) (R : S → Mem → Prop) (Z : Exn → Mem → Prop) (Q : VK) (E : XK),
    A'.guards = some [] → Room (j + 1) A' → Env0 P w K mg base A' (env' :: outer) s' H' → Un (frs outer) [] H0 H' s0.heap s'.heap → Step no1 W0 H0 W' H' → Al W' H' → Cells K W' μ H' →
    (m.wp μ fun r μ' => r.elim (fun s => R s μ') fun e => Z e μ') →
    (∀ d μ1 W1 x H1, R d μ1 → Ret K W' H' W1 H1 d μ1 x → Q x H1) → (∀ x μ1 W1 H1 c dx, Z x μ1 → RetX K W' H' W1 H1 x μ1 c dx → E c dx H1) →
    codeAny (model P w) A' (.call (.ref f) ⟨[], []⟩) (CR (L2.CX P w) (env' :: outer) P w H' s' Q E) s'
theorem LamG.mono {P : Program} {w : World} {K : PySem.W.Frag} {mg : Str → Option Value} {base : Heap} {outer : List PySem.Env} {f : Addr} {j k : Nat} {s0 : Shared} {H0 : Hp} {W0 : Wd} {m : M (Oc S)} (L : LamG P w K mg base outer f j s0 H0 W0 m) (h : j ≤ k) : LamG P w K mg base outer f k s0 H0 W0 m :=
  ⟨L.obj, L.hn, L.fr, fun A' env' s' H' W' μ R Z Q E hg hr => L.run A' env' s' H' W' μ R Z Q E hg (hr.mono (by omega))⟩
/-! ### f() in the def that got it -/
section
variable {X : Cx} {G : Gx} {T : WX} {k j : Nat} {f : Addr} {m : M (Oc S)} {a : Str} {p p2 : Pos}
end
/-! ### the def -/
/-! ### the lambda is made -/
section
variable {X : Cx} {pins : List (Addr × Obj)} {σ : L2.St} {H : Hp} {s : Shared}
end
/-! ### x(lambda: body) -/
section
variable {X : Cx} {G : Gx} {T : WX} {k j : Nat}
end
end DL


/-! ML19: equations of raise, try, lambdas; raw facts of exception classes. -/
namespace DL
open PySem PySem.Spec L2
variable {α β γ : Type}
/-! ### raise -/
section
variable {C f : Str} {w : EM S} {ρ : Sl} {t : List (Str × Str)} {xt : XTab} {N : Str} {n : Nat} {F : FM} {u : EM (List D)}
@[simp ↓] theorem m_raise1 : mRaise1 C f w ρ = bindES (w ρ) fun d ρ1 => ex ⟨C, [(f, d.frz)]⟩ ρ1 := rfl
end
/-! ### try -/
section
variable {t : XTab} {ow : List Str} {l : List Hd} {ρ : Sl} {s : S} {x : Exn} {p : Prop} [Decidable p] {u : SM} {h : Hd} {a : α}
@[simp ↓] theorem m_try : mTry t ow u l ρ = tryM t ow l (u ρ) := rfl
@[simp ↓] theorem try_rt : tryM t ow l (rt s) = rt s := rfl
@[simp ↓] theorem try_ex : tryM t ow l (ex x ρ) = mHs t ow x l ρ := rfl
@[simp ↓] theorem out_put {m : M (Oc α)} {k : α → Sl → MS} : out (bindES (put m ρ) k) = m.bind fun r => r.elim (fun a => out (k a ρ)) fun e => exn e := M.ext fun μ P => by
  unfold out bindES put
  simp only [wp_bind, wp_one]
  congr 1
  funext r μ1
  cases r <;> rfl
@[simp ↓] theorem hs_nil : mHs t ow x [] ρ = ex x ρ := rfl
theorem hs_no {r : List Hd} (e : t.any x.cls h.cs = some false) : mHs t ow x (h :: r) ρ = mHs t ow x r ρ := by
  show (match t.any x.cls h.cs with | some true => _ | some false => _ | none => _) = _
  rw [e]
theorem hs_yes0 {r : List Hd} {cs : List Str} {v : SM} {s : S} (e : t.any x.cls cs = some true) (hv : v ρ = rt s) : mHs t ow x (⟨cs, none, v⟩ :: r) ρ = rt s := by
  show (match t.any x.cls cs with | some true => (v ρ).bind fun r => (match r.1 with | .ex _ => M.bad | f => M.one (f, r.2) : MS) | some false => _ | none => _) = _
  rw [e, hv]; rfl
end
/-- by whether a clause takes it -/
def xcase {α : Type} (o : Option Bool) (y n : M α) : M α := match o with
  | some true => y
  | some false => n
  | none => M.bad
@[simp ↓] theorem out_xcase {o : Option Bool} {y n : MS} : out (xcase o y n) = xcase o (out y) (out n) := by cases o with | none => rfl | some b => cases b <;> rfl
def suite0 (m : MS) : MS := m.bind fun r => match r.1 with
  | .ex _ => M.bad
  | f => M.one (f, r.2)
section
variable {ρ : Sl} {s : S} {p : Prop} [Decidable p] {x : Exn}
@[simp ↓] theorem suite0_rt : suite0 (rt s) = rt s := rfl
variable {t : XTab} {ow : List Str} {cs : List Str} {i : Nat} {v : SM} {r : List Hd}
@[simp ↓] theorem hs_cons0 : mHs t ow x (⟨cs, none, v⟩ :: r) ρ = xcase (t.any x.cls cs) (suite0 (v ρ)) (mHs t ow x r ρ) := by
  show (match t.any x.cls cs with | some true => suite0 (v ρ) | some false => mHs t ow x r ρ | none => M.bad) = _
  cases t.any x.cls cs with
  | none => rfl
  | some b => cases b <;> rfl
end
/-! ### lambdas -/
section
variable {i : Nat} {f : Addr} {m : M (Oc S)} {ρ : Sl} {e : EM S} {F : Addr → M (Oc S) → M (Oc S)} {N : List Str} {b : Addr → M (Oc S) → SM}
@[simp ↓] theorem val_bind {s : S} {k : Oc S → M β} : (val s).bind k = k (.v s) := rfl
end
/-! ### raw facts -/
section
variable {K : PySem.W.Frag} {h : Heap} {mg : Str → Option Value} {C f N qual s p : Str} {st : Stmt} {Ca fI : Addr} {bmB : List Value} {newId : String} {od an : Option Addr} {sl : Array (Option Value)} {oc kV dc pm cd ct : Value}
/-- the __init__ of an exception class -/
structure XInit (s p f : Str) (st : Stmt) : Prop where
  sc : FnScope [s, p] [s, p] (defScope st)
  bd : ∃ p1 p2 p3 pos, defBody st = [.Assign [.Attribute (.Name s p1) f p2] (.Name p p3) pos]
  v0 : Vis (defScope st) s
  v1 : Vis (defScope st) p
  d0 : (s == ("__debug__" : Str)) = false
  d1 : (p == ("__debug__" : Str)) = false
  c0 : (s == ("__classdict__" : Str)) = false
  c1 : (p == ("__classdict__" : Str)) = false
  bi : ∀ (kV doc pm : Value) (an : Option Addr) (cdv ct : Value) (qual : Str) (us : List Value), us.length = 2 → bindArgs (PySem.W.fnOf "__init__" qual (defArgs st) (defBody st) (defScope st) .none kV doc pm an cdv ct) ⟨us, []⟩ = pure ([s, p].zip us)
theorem xk1_mk (X : K.In h) (G : h.Ns mainGlobals mg) (B : XBase bmB newId) (I : XInit s p f st) (z : PySem.W.nsIn K mainGlobals C = some (some (.ref Ca))) (q : PySem.W.excInitIn K Ca bmB newId = true) (hd : PySem.W.hasDictIn K Ca = true)
    (sa : PySem.W.findIn K (.ref Ca) "__setattr__" = some (some (.builtin "object.__setattr__"))) (p1 : PySem.W.subIn K (.ref Ca) (.type "BaseException") = some true) (p2 : PySem.W.typeIn K (.ref Ca) = some (.type "type")) (p3 : PySem.W.keepIn K (.ref Ca) = true)
    (ga : PySem.W.findIn K (.ref Ca) "__getattribute__" = some (some (.builtin "BaseException.__getattribute__"))) (gg : PySem.W.findIn K (.ref Ca) "__getattr__" = some none)
    (i : PySem.W.findIn K (.ref Ca) "__init__" = some (some (.ref fI))) (t : PySem.W.typeIn K (.ref fI) = some (.type "function")) (no : PySem.W.findIn K (.ref Ca) f = some none)
    (l : K.lookup fI = some ⟨oc, od, .func (PySem.W.fnOf "__init__" qual (defArgs st) (defBody st) (defScope st) .none kV dc pm an cd ct), sl⟩) (c : PySem.W.codeIn K cd qual = true) (k : PySem.W.keepIn K (.ref fI) = true) : XK1 K mg C f := by
  have F : Fun K "__init__" qual st fI _ := fun_mk (st := st) l c k
  have XC : XCls K Ca := ⟨⟨bmB, newId, B, q⟩, hd, sa, p1, p2, p3, ga, gg⟩
  obtain ⟨p1, p2', p3, pos, hb⟩ := I.bd
  exact ⟨Ca, fI, _, s, p, PySem.W.mg_of X G z, XC, i, t, F.binds (ps := [s, p]) (fun kV doc pm an cdv ct us hl => I.bi kV doc pm an cdv ct qual us hl), fun P w base => ok_xinit F I.sc hb XC no I.v0 I.v1 I.d0 I.d1 I.c0 I.c1⟩
/-- a class's name -/
theorem nmc_own (X : K.In h) (G : h.Ns mainGlobals mg) (z : PySem.W.nsIn K mainGlobals C = some (some (.ref Ca))) : ∃ a, mg C = some (.ref a) := ⟨Ca, PySem.W.mg_of X G z⟩
/-- one row of a clause's table: an own class against an own class, a built-in one -/
theorem xrow_own {b : Bool} {Na : Addr} (X : K.In h) (G : h.Ns mainGlobals mg) (z : PySem.W.nsIn K mainGlobals C = some (some (.ref Ca))) (y : PySem.W.nsIn K mainGlobals N = some (some (.ref Na))) (e : PySem.W.subIn K (.ref Na) (.type "BaseException") = some true) (hd : PySem.W.hasDictIn K Na = true) (t : PySem.W.typeIn K (.ref Na) = some (.type "type"))
    (u : PySem.W.subIn K (.ref Ca) (.ref Na) = some b) : ∀ c n, CvOf mg C c → CvOf mg N n → PySem.W.exmOne K c n = some b := fun c n hc hn => by
  have e1 := hc.uniq (.inl (PySem.W.mg_of X G z))
  have e2 := hn.uniq (.inl (PySem.W.mg_of X G y))
  subst e1 e2
  exact PySem.W.exm_ref e hd t u
theorem nv_own {X : Cx} {x : Str} (h : ∃ a, X.mg x = some (.ref a)) (hg : Gl X x := by rfl) (hd : (x == ("__debug__" : Str)) = false := by decide) : ∃ c, NameV X x c := let ⟨a, e⟩ := h; ⟨.ref a, hg, hd, .inl e⟩
end
/-! ### a def that makes lambdas -/
section
variable {P : Program} {w : World} {K : PySem.W.Frag} {mg : Str → Option Value} {base : Heap}
end
/-! ### the name of a dict, read and locked -/
end DL


/-! ### == of two empty dicts, beside the data's -/
namespace DL
open PySem PySem.Spec L2
/-! ### what a clause tells of the exception's attribute -/
/-! ### a dict display of one text and one int -/
section
variable {X : Cx} {G : Gx} {T : WX} {pos : Pos}
end
/-! ### sorted(set(t)), t a tuple of ints -/
section
variable {X : Cx} {G : Gx} {T : WX} {e : Expr} {pos p : Pos}
end
end DL


/-! DL33: xs.count(True), xs.index(True) of an own list of bools. -/
namespace DL
open PySem PySem.Spec L2 PyProof.Rows
section
variable {X : Cx} {G : Gx} {T : WX} {p apos cpos q1 : Pos} {kk : Nat}
end
/-! ### the repr of a dict whose values are ints -/
end DL


/-! DL34: texts: str(i), str(x) by its own method, sep.join(xs), text.split(sep), the signs of a text, a sign in a text, int(text), order. -/
namespace DL
open PySem PySem.Spec L2
section
variable {X : Cx} {G : Gx} {T : WX} {a b c e o value : Expr} {w wa wb wo : WE} {pos pos' p apos cpos : Pos} {i k j : Nat} {C : Str} {wf : WF} {p0 : Str} {K : PySem.W.Frag}
def fStrI (ds : List D) (R : S → Prop) : Prop := ∃ i : Int, ds = [.int i] ∧ i.natAbs.log2 < 1920 ∧ R (.d (.str (Str.ofString (toString i))))
theorem cd_strI : CaD K (fun xs H Q => ∃ i : Int, xs = [.int i] ∧ i.natAbs.log2 < 1920 ∧ Q (.str (toString i)) H) fStrI := by
  intro G W ρ σ H ds xs R Q ok h f k
  obtain ⟨i, rfl, h1, h2⟩ := f
  match xs, h with
  | _, .cons (.int _) .nil => exact ⟨i, rfl, h1, k _ _ _ _ h2 (.refl ok) (.of (.str _))⟩
/-! ### methods of a text -/
/-! ### a sign in a text, order -/
/-! ### the signs of a text -/
/-! ### str(x) of an instance -/
end
end DL


/-! ML20: the equations of texts. -/
namespace DL
open PySem PySem.Spec L2
section
variable {X : Cx} {G : Gx} {T : WX} {a b c e o value : Expr} {ma mb mo : EM S} {mu mk : EM (List D)} {pos pos' p apos cpos : Pos} {i k j : Nat} {f C m : Str} {ps : List Str} {es : List Expr} {kws : List Keyword} {p0 : Str} {ρ : Sl} {g : FM}
/-! ### methods of a text -/
/-! ### the signs of a text -/
/-! ### the equations -/
@[simp] theorem l_strI {n : Int} : M.lift (fStrI [.int n]) = (M.one (.d (.str (Str.ofString (toString n))))).req (n.natAbs.log2 < 1920) := lift_req fun R => by
  unfold fStrI
  exact propext ⟨fun ⟨i, e, h1, h2⟩ => by cases e; exact ⟨h1, h2⟩, fun h => ⟨n, rfl, h.1, h.2⟩⟩
end
end DL


/-! DL35: == and != of an instance by its own __eq__. -/
namespace PySem.W
open PySem PySem.Spec PySem.Calls PyProof.Rows
section
variable {prog : Program} {w : World} {A : Around} {E : Value → Shared → Prop} {s : Shared} {K : Frag} {x C L f : Addr} {h₀ : Heap} {m : Str → Option Value} {ox : Obj} {od : Option Obj} {b tb : Value}
end
end PySem.W
namespace DL
open PySem PySem.Spec L2
section
variable {X : Cx} {G : Gx} {T : WX} {a b c e o value : Expr} {w wa wb wo : WE} {pos pos' p apos cpos : Pos} {i k j : Nat} {C : Str} {wf : WF} {p0 p1 : Str} {ps : List Str} {ng : Bool}
/-! ### x is True -/
def fIsB (d e : D) (R : S → Prop) : Prop := ∃ i j : Bool, d = .bl i ∧ e = .bl j ∧ R (.d (.bl (decide (i = j))))
def fNotB (d e : D) (R : S → Prop) : Prop := ∃ i j : Bool, d = .bl i ∧ e = .bl j ∧ R (.d (.bl (!decide (i = j))))
theorem od_isB {K : PySem.W.Frag} : OpD K rIsB fIsB := by
  intro G W ρ σ H d e x y R Q ok hx hy f k
  obtain ⟨c, z, rfl, rfl, h⟩ := f
  cases hx
  cases hy
  exact ⟨c, z, rfl, rfl, k _ _ _ _ h (.refl ok) (.of (.bl _))⟩
theorem od_notB {K : PySem.W.Frag} : OpD K rNotB fNotB := by
  intro G W ρ σ H d e x y R Q ok hx hy f k
  obtain ⟨c, z, rfl, rfl, h⟩ := f
  cases hx
  cases hy
  exact ⟨c, z, rfl, rfl, k _ _ _ _ h (.refl ok) (.of (.bl _))⟩
end
end DL


/-! ML21: == and != by an own __eq__. -/
namespace DL
open PySem PySem.Spec L2
section
variable {X : Cx} {G : Gx} {T : WX} {a b c e o value : Expr} {ma mb mo : EM S} {pos p : Pos} {i k j : Nat} {C : Str} {p0 p1 : Str} {ρ : Sl} {g : FM} {ng : Bool}
variable {μ : Mem}
end
@[simp] theorem l_isB {i j : Bool} : M.lift (fIsB (.bl i) (.bl j)) = M.one (.d (.bl (decide (i = j)))) := lift_one fun R => by
  unfold fIsB
  exact propext ⟨fun ⟨a, b, e, e2, h⟩ => by cases e; cases e2; exact h, fun h => ⟨i, j, rfl, rfl, h⟩⟩
@[simp] theorem l_notB {i j : Bool} : M.lift (fNotB (.bl i) (.bl j)) = M.one (.d (.bl (!decide (i = j)))) := lift_one fun R => by
  unfold fNotB
  exact propext ⟨fun ⟨a, b, e, e2, h⟩ => by cases e; cases e2; exact h, fun h => ⟨i, j, rfl, rfl, h⟩⟩
/-! ### C(..) as a fact of the top -/
end DL


/-! DL36: a dict of the caller's that a def changes: a cell of the class dict while the call runs. -/
namespace DL
open PySem PySem.Spec L2
def D.sc : D → Bool
  | .non => true
  | .bl _ => true
  | .int _ => true
  | .str _ => true
  | _ => false
def S.plain : S → Prop
  | S.d x => x.sc = true
  | S.own xs => ∀ x ∈ xs, x.sc = true
  | _ => False
def dCell (kvs : List (Key × D)) : Cell := ⟨"dict", [(("" : Str), .dic kvs)]⟩
/-- the dict in a cell -/
def dicC (μ : Mem) (j : Nat) : Option (List (Key × D)) := (μ[j]?).bind fun c => if c.cls = "dict" then (match c.fs with
  | [(_, .dic kvs)] => some kvs
  | _ => none) else none
theorem dicC_d {μ : Mem} {j : Nat} {kvs : List (Key × D)} (h : μ[j]? = some (dCell kvs)) : dicC μ j = some kvs := by
  unfold dicC
  rw [h]
  rfl
section
variable {K : PySem.W.Frag} {W W' : Wd} {H H' : Hp}
theorem dn_sc {d : D} {v : V} (h : Dn K W H d v) (s : d.sc = true) (W' : Wd) (H' : Hp) : Dn K W' H' d v := by
  cases h <;> first | (cases s; done) | constructor
theorem dnA_sc (W' : Wd) (H' : Hp) : ∀ {ds : List D} {vs : List V}, DnA K W H ds vs → (∀ d ∈ ds, d.sc = true) → DnA K W' H' ds vs
  | _, _, .nil, _ => .nil
  | _, _, .cons h1 h2, s => .cons (dn_sc h1 (s _ List.mem_cons_self) W' H') (dnA_sc W' H' h2 fun d hd => s d (List.mem_cons_of_mem _ hd))
theorem dnK_sc (W' : Wd) (H' : Hp) : ∀ {ds : List (Key × D)} {vs : List (Key × V)}, DnK K W H ds vs → (∀ d ∈ ds, d.2.sc = true) → DnK K W' H' ds vs
  | _, _, .nil, _ => .nil
  | _, _, .cons h1 h2, s => .cons (dn_sc h1 (s _ List.mem_cons_self) W' H') (dnK_sc W' H' h2 fun d hd => s d (List.mem_cons_of_mem _ hd))
theorem dicC_at {μ : Mem} {j : Nat} {kvs : List (Key × D)} {v : V} (mm : Cells K W μ H) (hn : W.g "dict" = none) (e : dicC μ j = some kvs) (h : Dn K W H (.cell j) v) : ∃ a vs, v = .ref a ∧ W.C[j]? = some a ∧ H a = some (.dK vs) ∧ DnK K W H kvs vs := by
  cases h with
  | cell h =>
    unfold dicC at e
    obtain ⟨c, hc, e⟩ := Option.bind_eq_some_iff.mp e
    split at e
    · rename_i q
      rcases mm.at_ _ c _ hc h with ⟨Ca, dx, vs, h1, _⟩ | ⟨_, kvs', vs, h1, h2, h3⟩
      · rw [q, hn] at h1; cases h1
      · rw [h1] at e
        cases e
        exact ⟨_, vs, rfl, h, h2, h3⟩
    · cases e
/-- the cells cut off -/
def Wd.cut (W : Wd) (n : Nat) : Wd := ⟨W.F, W.J, W.C.take n, W.g, W.T⟩
mutual
theorem Dn.ctC : ∀ {d : D} {v0 v : V}, Dn K W H d v0 → Dn K W' H' d v → Dn K (W'.cut W.C.length) H' d v
  | _, _, _, .non, .non => .non
  | _, _, _, .bl b, .bl _ => .bl b
  | _, _, _, .int b, .int _ => .int b
  | _, _, _, .str b, .str _ => .str b
  | _, _, _, .tup _ h, .tup h1 h2 => .tup h1 (DnA.ctC h h2)
  | _, _, _, .lst _ _ h, .lst h1 h2 h3 => .lst h1 h2 (DnA.ctC h h3)
  | _, _, _, .rls _ h, .rls h1 h2 => .rls h1 (DnA.ctC h h2)
  | _, _, _, .dic _ _ h, .dic h1 h2 h3 => .dic h1 ⟨h2.rd⟩ (DnK.ctC h h3)
  | _, _, _, .ins _ _ _ h, .ins h1 h2 h3 h4 => .ins h1 h2 h3 (DnF.ctC h h4)
  | _, _, _, .cell h, .cell h1 => .cell (by
      show (W'.C.take W.C.length)[_]? = _
      rw [List.getElem?_take_of_lt (List.getElem?_eq_some_iff.mp h).1]; exact h1)
  | _, _, _, .cls _, .cls h1 => .cls h1
  | _, _, _, .exc0 _ _ _, .exc0 h1 h2 h3 => .exc0 h1 h2 h3
  | _, _, _, .exc0 _ _ _, .exc h1 h2 h3 h4 h5 .nil => .exc h1 h2 h3 h4 h5 .nil
  | _, _, _, .exc _ _ _ _ _ .nil, .exc0 h1 h2 h3 => .exc0 h1 h2 h3
  | _, _, _, .exc _ _ _ _ _ h, .exc h1 h2 h3 h4 h5 h6 => .exc h1 h2 h3 h4 h5 (DnF.ctC h h6)
  | _, _, _, .jar _ _, .jar h n => .jar h n
  | _, _, _, .v x, .v _ => .v x
theorem DnA.ctC : ∀ {d : List D} {v0 v : List V}, DnA K W H d v0 → DnA K W' H' d v → DnA K (W'.cut W.C.length) H' d v
  | _, _, _, .nil, .nil => .nil
  | _, _, _, .cons h1 h2, .cons k1 k2 => .cons (Dn.ctC h1 k1) (DnA.ctC h2 k2)
theorem DnK.ctC : ∀ {d : List (Key × D)} {v0 v : List (Key × V)}, DnK K W H d v0 → DnK K W' H' d v → DnK K (W'.cut W.C.length) H' d v
  | _, _, _, .nil, .nil => .nil
  | _, _, _, .cons h1 h2, .cons k1 k2 => .cons (Dn.ctC h1 k1) (DnK.ctC h2 k2)
theorem DnF.ctC : ∀ {d : List (Str × D)} {v0 v : List (Str × V)}, DnF K W H d v0 → DnF K W' H' d v → DnF K (W'.cut W.C.length) H' d v
  | _, _, _, .nil, .nil => .nil
  | _, _, _, .cons h1 h2, .cons k1 k2 => .cons (Dn.ctC h1 k1) (DnF.ctC h2 k2)
end
theorem JarAt.cut {n : Nat} {a : Addr} (h : JarAt W H a) : JarAt (W.cut n) H a := by
  unfold JarAt TabW at *
  exact h
theorem CellAt.cut {c : Cell} {a a0 : Addr} (h0 : CellAt K W H c a0) (hg : W'.g = W.g) (h : CellAt K W' H' c a) : CellAt K (W'.cut W.C.length) H' c a := by
  rcases h0 with ⟨Ca, dx, vs, h1, h2, h3⟩ | ⟨h1, kvs, vs, h2, h3, h4⟩
  · rcases h with ⟨Cb, dy, ws, k1, k2, k3⟩ | ⟨k1, _⟩
    · exact .inl ⟨Cb, dy, ws, k1, k2, h3.ctC k3⟩
    · rw [hg, h1] at k1; cases k1
  · rcases h with ⟨Cb, dy, ws, k1, k2, k3⟩ | ⟨k1, kvs', ws, k2, k3, k4⟩
    · rw [hg, h1] at k1; cases k1
    · rw [h2] at k2
      cases k2
      exact .inr ⟨k1, kvs, ws, h2, k3, h4.ctC k4⟩
end
section
variable {K : PySem.W.Frag} {G : Gx} {σ : L2.St} {ρ : Rho} {W : Wd} {H : Hp}
/-- a cell is written, of any kind -/
theorem Ok.wcellD (ok : Ok K G W ρ σ H) {i : Nat} {c0 c : Cell} {a : Addr} {o : HO} (hi : ρ.mm[i]? = some c0) (ha : W.C[i]? = some a) (hc : CellAt K W (upd H a o) c a) :
    Ok K G W ⟨ρ.sl, ρ.mm.set i c⟩ σ (upd H a o) ∧ Le W H W (upd H a o) := by
  have hm : a ∈ W.C := List.mem_of_getElem? ha
  obtain ⟨nF, nJ, _⟩ := ok.al.c a hm
  have l : Le W H W (upd H a o) := .same fun b q => upd_ne fun z => nF (by rw [← z]; exact q)
  refine ⟨⟨ok.len, fun j d h => ?_, ok.frs, ok.inj, ⟨fun b q => ?_, fun b q => ?_, ok.al.d, fun b q => ?_, ok.al.nd, ok.al.t⟩, ?_, ?_⟩, l⟩
  · obtain ⟨x, e1, e2⟩ := ok.val j d h
    refine ⟨x, e1, e2.le l fun od p hp => upd_ne fun z => ?_⟩
    subst hp
    exact (ok.frs p ⟨j, d, h, od, e1⟩).2.2.1 (by rw [z]; exact hm)
  · rw [l.k b q]; exact ok.al.f b q
  · exact (ok.al.j b q).le l (upd_ne fun w => nJ (by rw [← w]; exact q))
  · refine ⟨(ok.al.c b q).1, (ok.al.c b q).2.1, ?_⟩
    by_cases z : b = a
    · subst z; exact ⟨_, upd_same⟩
    · rw [upd_ne z]; exact (ok.al.c b q).2.2
  · refine ⟨ok.en.le.trans l, ok.en.nF, ok.en.nJ, ok.en.nC, fun b u hb nj nc no => ?_, fun b hb => ?_⟩
    · rw [upd_ne fun z => ?_]
      · exact ok.en.st b u hb nj nc no
      · subst z
        rcases ok.en.nC b hm with q | q
        · exact nc q
        · rw [hb] at q; cases q
    · by_cases z : b = a
      · subst z; rw [upd_same] at hb; cases hb
      · rw [upd_ne z] at hb; exact ok.en.up b hb
  · refine ⟨by dsimp only; rw [List.length_set]; exact ok.mm.len, ok.mm.tab, fun j cl b h1 h2 => ?_⟩
    rcases set_get h1 with ⟨z1, z2⟩ | ⟨z1, z2⟩
    · subst z1; cases z2
      rw [ha] at h2; cases h2
      exact hc
    · refine (ok.mm.at_ j cl b z2 h2).le l ?_
      rw [upd_ne fun z => z1 ?_]
      subst z
      obtain ⟨l1, g1⟩ := List.getElem?_eq_some_iff.mp ha
      obtain ⟨l2, g2⟩ := List.getElem?_eq_some_iff.mp h2
      exact (List.getElem_inj ok.al.nd).mp (g1.trans g2.symm)
/-- an own dict becomes a cell -/
theorem Ok.asCell (ok : Ok K G W ρ σ H) {i : Nat} {kvs : List (Key × D)} {vs : List (Key × V)} {q : Addr} (hn : W.g "dict" = none) (e : ρ.sl[i]? = some (some (.odic kvs))) (ev : σ[i]? = some (some (.ref q))) (hq : H q = some (.dK vs)) (da : DnK K W H kvs vs) :
    Al (W.addC q) H ∧ Cells K (W.addC q) (ρ.mm ++ [dCell kvs]) H ∧ Le W H (W.addC q) H ∧ Dn K (W.addC q) H (.cell ρ.mm.length) (.ref q) := by
  obtain ⟨nf, nj, nc, h0⟩ := ok.frs q ⟨i, _, e, rfl, ev⟩
  have l : Le W H (W.addC q) H := ⟨fun _ h => h, fun _ h => h, fun _ _ => rfl, fun i a h => by
    show (W.C ++ [q])[i]? = some a
    rw [List.getElem?_append_left (List.getElem?_eq_some_iff.mp h).1]; exact h, rfl, rfl⟩
  have memC : ∀ a, a ∈ (W.addC q).C → a ∈ W.C ∨ a = q := fun a h => by
    have h : a ∈ W.C ++ [q] := h
    simpa using h
  refine ⟨⟨ok.al.f, fun a q => (ok.al.j a q).le l rfl, ok.al.d, fun a h => (memC a h).elim (ok.al.c a) fun e => by subst e; exact ⟨nf, nj, _, hq⟩, ?_, ok.al.t⟩, ?_, l, .cell ?_⟩
  · show (W.C ++ [q]).Nodup
    rw [List.nodup_append]
    exact ⟨ok.al.nd, by simp, fun a ha b hb => by simp at hb; subst hb; rintro rfl; exact nc ha⟩
  · refine ⟨?_, ok.mm.tab, fun i cl a h1 h2 => ?_⟩
    · show (ρ.mm ++ [_]).length = (W.C ++ [q]).length
      rw [List.length_append, List.length_append, ok.mm.len]; rfl
    · have h2 : (W.C ++ [q])[i]? = some a := h2
      by_cases z : i < ρ.mm.length
      · rw [List.getElem?_append_left z] at h1
        rw [List.getElem?_append_left (by rw [← ok.mm.len]; exact z)] at h2
        exact (ok.mm.at_ i cl a h1 h2).le l rfl
      · rw [List.getElem?_append_right (by omega)] at h1
        rw [List.getElem?_append_right (by rw [← ok.mm.len]; omega), ← ok.mm.len] at h2
        have : i - ρ.mm.length = 0 := by
          have := (List.getElem?_eq_some_iff.mp h1).1
          simp at this; omega
        rw [this] at h1 h2
        cases h1; cases h2
        exact .inr ⟨hn, kvs, vs, rfl, hq, DnK.le l da⟩
  · show (W.C ++ [q])[ρ.mm.length]? = some q
    rw [ok.mm.len, List.getElem?_append_right (Nat.le_refl _), Nat.sub_self]; rfl
/-- .. and comes back behind the call -/
theorem Ok.backCell (ok : Ok K G W ρ σ H) {i : Nat} {kvs kvs' : List (Key × D)} {vs : List (Key × V)} {q : Addr} {W' : Wd} {H' : Hp} {s : S} {x : V} (hn : W.g "dict" = none) (e : ρ.sl[i]? = some (some (.odic kvs))) (ev : σ[i]? = some (some (.ref q))) (hq : H q = some (.dK vs))
    (rt : Ret K (W.addC q) H W' H' s (ρ.mm ++ [dCell kvs']) x) (hs : s.plain) (hk : ∀ d ∈ kvs', d.2.sc = true) :
    ∃ W2, Go K G σ ρ W H ⟨ρ.sl.set i (some (.odic kvs')), ρ.mm⟩ W2 H' ∧ Res K H W2 H' s x := by
  obtain ⟨nf, nj, nc, h0⟩ := ok.frs q ⟨i, _, e, rfl, ev⟩
  have hlen : W'.C.length = W.C.length + 1 := by
    rw [← rt.mm.len, List.length_append, ok.mm.len]; rfl
  have hC : W'.C = W.C ++ [q] := by
    refine List.ext_getElem? fun j => ?_
    by_cases z : j < (W.C ++ [q]).length
    · rw [List.getElem?_eq_getElem z]
      exact rt.stp.le.C j _ (List.getElem?_eq_getElem z)
    · have h1 : W'.C[j]? = none := List.getElem?_eq_none (by rw [hlen]; simp at z; omega)
      have h2 : (W.C ++ [q])[j]? = none := List.getElem?_eq_none (by omega)
      rw [h1, h2]
  have hcut : (W'.cut W.C.length).C = W.C := by
    show W'.C.take W.C.length = W.C
    rw [hC, List.take_left']
    rfl
  have hgg : W'.g = W.g := rt.stp.le.g
  have mq : q ∈ W'.C := by rw [hC]; simp
  obtain ⟨nf', nj', _, _⟩ := rt.al.c q mq
  have l : Le W H (W'.cut W.C.length) H' := ⟨rt.stp.le.F, rt.stp.le.J, rt.stp.le.k, fun j a h => by rw [hcut]; exact h, rt.stp.le.g, rt.stp.le.T⟩
  have st : Step (fun a => a = q) W H (W'.cut W.C.length) H' :=
    ⟨l, fun a h => (rt.stp.nF a h).imp id fun z => .inl (z.elim id fun z => z.elim), rt.stp.nJ, fun a h => .inl (by rw [hcut] at h; exact h), fun a o h n1 n2 n3 => rt.stp.st a o h n1 (fun z => by
      have z : a ∈ W.C ++ [q] := z
      rcases List.mem_append.mp z with z | z
      · exact n2 z
      · exact n3 (by simpa using z)) fun z => z.elim, rt.stp.up⟩
  have same : ∀ a, Ow ρ σ a → a ≠ q → H' a = H a := fun a ha hne => by
    obtain ⟨o, ho⟩ := ok.here ha
    obtain ⟨f1, f2, f3, f4⟩ := ok.frs a ha
    rw [ho]
    exact st.st a o ho f2 f3 hne
  have al : Al (W'.cut W.C.length) H' := ⟨rt.al.f, fun a h => (rt.al.j a h).cut, rt.al.d, fun a h => rt.al.c a (by rw [hcut] at h; rw [hC]; simp [h]), by rw [hcut]; exact ok.al.nd, rt.al.t⟩
  have hdk : ∃ ws, H' q = some (.dK ws) ∧ DnK K W' H' kvs' ws := by
    have h1 : (ρ.mm ++ [dCell kvs'])[ρ.mm.length]? = some (dCell kvs') := by rw [List.getElem?_append_right (Nat.le_refl _), Nat.sub_self]; rfl
    have h2 : W'.C[ρ.mm.length]? = some q := by rw [hC, ok.mm.len, List.getElem?_append_right (Nat.le_refl _), Nat.sub_self]; rfl
    rcases rt.mm.at_ _ _ _ h1 h2 with ⟨Ca, dx, ws, k1, _⟩ | ⟨_, kv2, ws, k2, k3, k4⟩
    · rw [hgg] at k1
      rw [show (dCell kvs').cls = "dict" from rfl, hn] at k1
      cases k1
    · cases k2
      exact ⟨ws, k3, k4⟩
  obtain ⟨ws, hq', dk⟩ := hdk
  have ilt : i < ρ.sl.length := (List.getElem?_eq_some_iff.mp e).1
  have sub : ∀ a, Ow ⟨ρ.sl.set i (some (.odic kvs')), ρ.mm⟩ σ a → Ow ρ σ a := fun a ⟨j, d, d1, d2, d3⟩ => by
    rcases set_get d1 with ⟨z1, z2⟩ | ⟨z1, z2⟩
    · subst z1
      exact ⟨i, _, e, rfl, d3⟩
    · exact ⟨j, d, z2, d2, d3⟩
  refine ⟨W'.cut W.C.length, ⟨⟨ok.len.trans List.length_set.symm, fun j d h => ?_, fun a h => ?_, fun j m d d' a h1 h2 o1 o2 s1 s2 => ?_, al, ok.en.trans st fun a z => .inr (by rw [z]; exact h0), ?_⟩, st.mono fun a z => by rw [z]; exact ⟨i, _, e, rfl, ev⟩, sub⟩, ?_⟩
  · rcases set_get h with ⟨z1, z2⟩ | ⟨z1, z2⟩
    · subst z1
      cases z2
      exact ⟨_, ev, q, ws, rfl, hq', dnK_sc _ _ dk hk⟩
    · obtain ⟨y, e1, e2⟩ := ok.val j d z2
      refine ⟨y, e1, e2.le l fun o p ep => ?_⟩
      subst ep
      refine same p ⟨j, d, z2, o, e1⟩ fun z => z1 ?_
      subst z
      exact ok.inj i j _ d p e z2 rfl o ev e1
  · obtain ⟨f1, f2, f3, f4⟩ := ok.frs a (sub a h)
    by_cases z : a = q
    · subst z
      exact ⟨nf', nj', by rw [hcut]; exact f3, f4⟩
    · obtain ⟨o, ho⟩ := ok.here (sub a h)
      refine ⟨fun w => ?_, fun w => ?_, by rw [hcut]; exact f3, f4⟩
      · rcases rt.stp.nF a w with y | y | y
        · exact f1 y
        · rw [ho] at y; cases y
        · exact y.elim
      · rcases rt.stp.nJ a w with y | y
        · exact f2 y
        · rw [ho] at y; cases y
  · have old : ∀ (j : Nat) (d : S), (ρ.sl.set i (some (.odic kvs')))[j]? = some (some d) → d.isOwn = true → ∃ d0, ρ.sl[j]? = some (some d0) ∧ d0.isOwn = true := fun j d h o => by
      rcases set_get h with ⟨z1, z2⟩ | ⟨z1, z2⟩
      · subst z1; exact ⟨_, e, rfl⟩
      · exact ⟨d, z2, o⟩
    obtain ⟨d0, a1, a2⟩ := old j d h1 o1
    obtain ⟨d1, b1, b2⟩ := old m d' h2 o2
    exact ok.inj j m d0 d1 a a1 b1 a2 b2 s1 s2
  · refine ⟨by rw [hcut]; exact ok.mm.len, fun P z h => by
      have := ok.mm.tab P z h
      show W'.T P z ∧ ∀ q', W'.T P q' → q' = z
      rw [show W'.T = W.T from rt.stp.le.T]; exact this, fun j c a h1 h2 => ?_⟩
    rw [hcut] at h2
    have jl : j < ρ.mm.length := (List.getElem?_eq_some_iff.mp h1).1
    exact (ok.mm.at_ j c a h1 h2).cut hgg (rt.mm.at_ j c a (by dsimp only at h1; rw [List.getElem?_append_left jl]; exact h1) (by rw [hC, List.getElem?_append_left (List.getElem?_eq_some_iff.mp h2).1]; exact h2))
  · cases s with
    | d d => exact .of (dn_sc rt.res.rs hs _ _)
    | own ds =>
      obtain ⟨p, us, rfl, hp, dp⟩ := rt.res.rs
      obtain ⟨a1, a2, a3, a4⟩ := rt.res.fr rfl p rfl
      exact ⟨⟨p, us, rfl, hp, dnA_sc _ _ dp hs⟩, fun _ p' ep => by
        cases ep
        exact ⟨a1, a2, fun z => a3 (by rw [hcut] at z; rw [hC]; simp [z]), a4⟩⟩
    | _ => exact hs.elim
end
section
variable {X : Cx} {G : Gx} {T : WX} {a b c e : Expr} {w wa wb wk : WE} {pos p px apos cpos tpos : Pos} {k j : Nat} {f : Addr} {fd : FuncData} {ps : List Str} {wf : WF}
/-- k in x, x a slot with a cell that is a dict -/
def wDinC (neg : Bool) (i : Nat) (wk : WE) : WE := fun Z ρ R => (∃ s0, ρ.sl[i]? = some (some s0)) ∧ wk Z ρ fun k ρ1 => match ρ1.sl[i]? with
  | some (some (.d (.cell j))) => ∃ kvs κ, dicC ρ1.mm j = some kvs ∧ k.frz.key = some κ ∧ R (.d (.bl ((valD kvs κ).isSome ^^ neg))) ρ1
  | _ => False
theorem dinC_then {neg : Bool} {i : Nat} {σ : L2.St} {H : Hp} {Q : VK} (hG : G.W.g = X.mg) (hn : X.mg "dict" = none) (h : lE X.K G T (wDinC neg i wk) σ H Q) : lE X.K G T wk σ H fun y H1 => tVar i σ H1 fun x H2 => ∃ a o, x = .ref a ∧ DGet H2 a y o ∧ Q (.bl (o.isSome ^^ neg)) H2 := by
  obtain ⟨W, ρ, R, Z, ok, ⟨⟨s0, e0⟩, h⟩, hR, hZ⟩ := h
  obtain ⟨x, _, ex, _⟩ := ok.look e0
  refine lE_then (R := fun k ρ1 => match ρ1.sl[i]? with | some (some (.d (.cell j))) => ∃ kvs κ, dicC ρ1.mm j = some kvs ∧ k.key = some κ ∧ R (.d (.bl ((valD kvs κ).isSome ^^ neg))) ρ1 | _ => False) ok h hZ fun k ρ1 W1 y H1 h1 g1 d1 => ?_
  split at h1
  · rename_i j e1
    obtain ⟨x', e2, r⟩ := g1.ok.val i _ e1
    rw [ex] at e2; cases e2
    obtain ⟨kvs, κ, f1, f2, f4⟩ := h1
    obtain ⟨q, vs, rfl, _, hq, da⟩ := dicC_at g1.ok.mm (by rw [g1.ok.en.le.g, hG]; exact hn) f1 r
    refine ⟨_, ex, q, _, rfl, .inl ⟨vs, κ, .inl hq, dn_key d1 f2, rfl⟩, ?_⟩
    have e : ∀ o : Option V, o.isSome = (valD kvs κ).isSome → R (.d (.bl (o.isSome ^^ neg))) ρ1 := fun o e => by rw [e]; exact f4
    rcases da.val (k := κ) with ⟨z1, z2⟩ | ⟨d', v', z1, z2, z3⟩
    · rw [z2]; exact hR _ ρ1 W1 _ H1 (e none (by rw [z1]; rfl)) g1 (.of (.bl _))
    · rw [z2]; exact hR _ ρ1 W1 _ H1 (e (some v') (by rw [z1]; rfl)) g1 (.of (.bl _))
  · exact h1.elim
/-- x[k] = e, x a slot with a cell that is a dict -/
def wDputC (i : Nat) (wk w : WE) : WS := fun E ρ => w E.ex ρ fun d ρ1 => (∃ s0, ρ1.sl[i]? = some (some s0)) ∧ wk E.ex ρ1 fun k ρ2 => match ρ2.sl[i]? with
  | some (some (.d (.cell j))) => ∃ kvs κ, dicC ρ2.mm j = some kvs ∧ k.frz.key = some κ ∧ kvs.length < sizeLine ∧ E.nx ⟨ρ2.sl, ρ2.mm.set j (dCell (putD kvs κ d.frz))⟩
  | _ => False
theorem ds_dputC (i : Nat) {x : Str} {idx : Expr} (hG : G.W.g = X.mg) (hdn : X.mg "dict" = none) (hu : X.A.units + 1 < cLine) (he : DE X G T e w) (hk : DE X G T idx wk) (hN : X.N[i]? = some x := by rfl) (hv : Vis X.env.scope x := by first | exact Or.inl rfl | exact Or.inr (Or.inl rfl) | exact Or.inr (Or.inr rfl)) (hd : (x == ("__debug__" : Str)) = false := by decide) (hcd : (x == ("__classdict__" : Str)) = false := by decide)
    (hs : swapsWith e (some (.Subscript (.Name x p) idx tpos)) pos.line X.env = pure false := by rfl) :
    DS X G T (.Assign [.Subscript (.Name x p) idx tpos] e pos) (wDputC i wk w) :=
  ps_weak (ps_dput hu (pv i hN hv hd hcd) hk he hs) fun D σ H ⟨W, ρ, E, ok, h, hn, hr, hb, hc, hx⟩ => by
    refine lE_then (R := fun d ρ1 => (∃ s0, ρ1.sl[i]? = some (some s0)) ∧ wk E.ex ρ1 fun k ρ2 => match ρ2.sl[i]? with
      | some (some (.d (.cell j))) => ∃ kvs κ, dicC ρ2.mm j = some kvs ∧ k.frz.key = some κ ∧ kvs.length < sizeLine ∧ E.nx ⟨ρ2.sl, ρ2.mm.set j (dCell (putD kvs κ d))⟩
      | _ => False) ok h (hx.z σ ρ) fun d ρ1 W1 x1 H1 ⟨⟨s0, e0⟩, h1⟩ g1 d1 => ?_
    obtain ⟨y, _, ey, _⟩ := g1.ok.look e0
    refine ⟨y, ey, ?_⟩
    refine lE_then (R := fun k ρ2 => match ρ2.sl[i]? with
      | some (some (.d (.cell j))) => ∃ kvs κ, dicC ρ2.mm j = some kvs ∧ k.key = some κ ∧ kvs.length < sizeLine ∧ E.nx ⟨ρ2.sl, ρ2.mm.set j (dCell (putD kvs κ d))⟩
      | _ => False) g1.ok h1 ((hx.z σ ρ).go g1) fun k ρ2 W2 x2 H2 h2 g2 d2 => ?_
    have g12 := g1.trans g2
    split at h2
    · rename_i j e2
      obtain ⟨y1, ey1, r⟩ := g2.ok.val i _ e2
      rw [ey] at ey1; cases ey1
      obtain ⟨kvs, κ, f1, f2, f3, f4⟩ := h2
      have hgn : W2.g "dict" = none := by rw [g2.ok.en.le.g, hG]; exact hdn
      obtain ⟨q, vs, rfl, hqc, hq, da⟩ := dicC_at g2.ok.mm hgn f1 r
      have d1' := d1.le g2.stp.le
      have hm : q ∈ W2.C := List.mem_of_getElem? hqc
      have l : Le W2 H2 W2 (upd H2 q (.dK (putK vs κ x1))) := .same fun a z => upd_ne fun z2 => (g2.ok.al.c q hm).1 (by rw [← z2]; exact z)
      have hj : ∃ c0, ρ2.mm[j]? = some c0 := by
        unfold dicC at f1
        obtain ⟨c, hc, _⟩ := Option.bind_eq_some_iff.mp f1
        exact ⟨c, hc⟩
      obtain ⟨c0, hj⟩ := hj
      obtain ⟨ok3, l3⟩ := g2.ok.wcellD (c := dCell (putD kvs κ d)) (o := .dK (putK vs κ x1)) hj hqc (.inr ⟨hgn, _, _, rfl, upd_same, DnK.le l (DnK.put d1' da)⟩)
      exact ⟨q, _, rfl, .inl ⟨vs, κ, hq, dn_key d2 f2, by rw [← da.length]; exact f3, rfl⟩, hn _ W2 σ _ f4 ok3 (g12.stp.le.trans l3)⟩
    · exact h2.elim
/-- f(a, b, x), x a slot with an own dict that f changes -/
def wCallO (i : Nat) (wf : WF) (wa wb : WE) : WE := fun Z ρ R => (∃ s0, ρ.sl[i]? = some (some s0)) ∧ wa Z ρ fun a ρ1 => wb Z ρ1 fun b ρ2 => match ρ2.sl[i]? with
  | some (some (.odic kvs)) => wf (fun _ _ => False) [a.frz, b.frz, .cell ρ2.mm.length] (ρ2.mm ++ [dCell kvs]) fun s μ => s.plain ∧ ∃ kvs', (∀ d ∈ kvs', d.2.sc = true) ∧ μ = ρ2.mm ++ [dCell kvs'] ∧ R s ⟨ρ2.sl.set i (some (.odic kvs')), ρ2.mm⟩
  | _ => False
theorem de_callO (i : Nat) {x y p0 p1 p2 : Str} (C : CxG X T k) (hG : G.W.g = X.mg) (hn : X.mg "dict" = none) (F : FnG X.prog X.w X.K X.mg X.base j f fd [p0, p1, p2] wf) (hj : j ≤ k) (hm : X.mg x = some (.ref f)) (hk : PySem.W.keepIn X.K (.ref f) = true) (hb : Binds X.K fd [p0, p1, p2] [])
    (ha : DE X G T a wa) (hbb : DE X G T b wb) (hN : X.N[i]? = some y := by rfl) (hv : Vis X.env.scope y := by first | exact Or.inl rfl | exact Or.inr (Or.inl rfl) | exact Or.inr (Or.inr rfl)) (hd : (y == ("__debug__" : Str)) = false := by decide) (hcd : (y == ("__classdict__" : Str)) = false := by decide)
    (hg : Gl X x := by rfl) (hdb : (x == ("__debug__" : Str)) = false := by decide)
    (he : starEach [a, b, .Name y px] X.env = (false, eval a X.env) :: starEach [b, .Name y px] X.env := by rfl) (he2 : starEach [b, .Name y px] X.env = (false, eval b X.env) :: starEach [.Name y px] X.env := by rfl) (he3 : starEach [.Name y px] X.env = (false, eval (.Name y px) X.env) :: starEach [] X.env := by rfl)
    (hpl : (backTo pos (starEach [b, .Name y px] X.env)).any (·.1) = false := by rfl) :
    DE X G T (.Call (.Name x p) [a, b, .Name y px] [] pos) (wCallO i wf wa wb) := by
  refine ⟨fun pins s σ H Q I ⟨W, ρ, R, Z, ok, ⟨⟨s0, e0⟩, h⟩, hR, hZ⟩ => ?_⟩
  refine wpAny_Call_Name_kw (ld_glob I hg hm ?_ hdb)
  obtain ⟨xv, _, ex, _⟩ := ok.look e0
  have args : tCons (lE X.K G T wa) (tCons (lE X.K G T wb) (tCons (tVar i) tNil)) σ H fun vs H1 => ∃ da db W1 ρ1 kvs va vb, vs = [va, vb, xv] ∧ Go X.K G σ ρ W H ρ1 W1 H1 ∧ Dn X.K W1 H1 da va ∧ Dn X.K W1 H1 db vb ∧ ρ1.sl[i]? = some (some (.odic kvs)) ∧
      wf (fun _ _ => False) [da, db, .cell ρ1.mm.length] (ρ1.mm ++ [dCell kvs]) fun s μ => s.plain ∧ ∃ kvs', (∀ d ∈ kvs', d.2.sc = true) ∧ μ = ρ1.mm ++ [dCell kvs'] ∧ R s ⟨ρ1.sl.set i (some (.odic kvs')), ρ1.mm⟩ := by
    refine lE_then (R := fun a ρ1 => wb Z ρ1 fun b ρ2 => match ρ2.sl[i]? with
      | some (some (.odic kvs)) => wf (fun _ _ => False) [a, b.frz, .cell ρ2.mm.length] (ρ2.mm ++ [dCell kvs]) fun s μ => s.plain ∧ ∃ kvs', (∀ d ∈ kvs', d.2.sc = true) ∧ μ = ρ2.mm ++ [dCell kvs'] ∧ R s ⟨ρ2.sl.set i (some (.odic kvs')), ρ2.mm⟩
      | _ => False) ok h hZ fun d1 ρ1 W1 x1 H1 h1 g1 r1 => ?_
    refine lE_then (R := fun b ρ2 => match ρ2.sl[i]? with
      | some (some (.odic kvs)) => wf (fun _ _ => False) [d1, b, .cell ρ2.mm.length] (ρ2.mm ++ [dCell kvs]) fun s μ => s.plain ∧ ∃ kvs', (∀ d ∈ kvs', d.2.sc = true) ∧ μ = ρ2.mm ++ [dCell kvs'] ∧ R s ⟨ρ2.sl.set i (some (.odic kvs')), ρ2.mm⟩
      | _ => False) g1.ok h1 (hZ.go g1) fun d2 ρ2 W2 x2 H2 h2 g2 r2 => ?_
    refine ⟨xv, ex, ?_⟩
    split at h2
    · rename_i kvs e2
      exact ⟨d1, d2, W2, ρ2, kvs, x1, x2, rfl, g1.trans g2, r1.le g2.stp.le, r2, e2, h2⟩
    · exact h2.elim
  refine PySem.W.callWith_K (h₀ := X.base) I.ok.mod.kin hk (thn ((pa_cons ha (pa_cons hbb (pa_cons (pv i hN hv hd hcd) pa_nil he3) he2) he).run pos pins s σ H _ I args) fun us s1 ⟨vs, H1, I1, r, da, db, W1, ρ1, kvs, va, vb, ev, g, r1, r2, e2, hw⟩ => ⟨I1.kIn, ?_⟩) he hpl
  subst ev
  obtain ⟨xv', e3, q, ws, rfl, hq, dk⟩ := g.ok.val i _ e2
  rw [ex] at e3
  cases e3
  have hgn : W1.g "dict" = none := by rw [g.ok.en.le.g, hG]; exact hn
  obtain ⟨al, mm, l, dc⟩ := g.ok.asCell hgn e2 ex hq dk
  have e : (us ++ ([] : List Value)).length = [p0, p1, p2].length := by rw [List.append_nil, ← r.length]; rfl
  have hb' := hb s1 us I1.kIn e
  rw [List.append_nil] at hb'
  refine wpAny_call (codeAny_mono (F X.A X.stack s1 H1 ⟨us, []⟩ us _ [da, db, .cell ρ1.mm.length] (W1.addC q) _ _ _ Q (fun _ _ _ => False) C.gd (C.rm.mono hj) I1.env0 hb' r rfl al mm (g.ok.en.le.g.trans hG) (.cons (r1.le l) (.cons (r2.le l) (.cons dc .nil))) hw
    (fun d μ' W' x H' hr rt => ?_) fun _ _ _ _ _ _ z => z.elim) fun r s' hq => ?_)
  · obtain ⟨hp, kvs', hsc, rfl, hr⟩ := hr
    obtain ⟨W2, g2, rs⟩ := g.ok.backCell hgn e2 ex hq rt hp hsc
    exact hR _ _ W2 x H' hr (g.trans g2) (rs.up g.stp.up)
  · match r, hq with
    | .error er, hq => obtain ⟨_, _, _, _, _, _, _, _, _, _, _, _, z⟩ := hq; exact z.elim
    | .ok (.ret u), hq => exact I1.after hq
end
/-! ### xs.index(e), a list of ints -/
section
variable {X : Cx} {G : Gx} {T : WX} {e : Expr} {we : WE} {p apos cpos : Pos}
def intsOf : List D → Option (List Int)
  | [] => some []
  | .int b :: ds => (intsOf ds).map (b :: ·)
  | _ :: _ => none
theorem intsOf_map : ∀ {ns : List Int}, intsOf (ns.map .int) = some ns
  | [] => rfl
  | n :: ns => by
    show (intsOf (ns.map .int)).map (n :: ·) = some (n :: ns)
    rw [intsOf_map]; rfl
theorem intsOf_eq : ∀ {ds : List D} {bs : List Int}, intsOf ds = some bs → ds = bs.map .int
  | [], bs, h => by cases h; rfl
  | d :: ds, bs, h => by
    cases d <;> first | (cases h; done) | skip
    rename_i b
    have h : (intsOf ds).map (b :: ·) = some bs := h
    obtain ⟨cs, hc, rfl⟩ := Option.map_eq_some_iff.mp h
    rw [intsOf_eq hc]; rfl
/-- the list of ints that a slot holds -/
def S.ints (s : S) : Option (List Int) := match s with
  | .own ds => intsOf ds
  | .d (.lst ds) => intsOf ds
  | .d (.rls ds) => intsOf ds
  | _ => none
theorem ints_at {K : PySem.W.Frag} {W : Wd} {H : Hp} {s : S} {x : V} {ns : List Int} (h : Rs K W H s x) (e : s.ints = some ns) : ∃ q, x = .ref q ∧ SqL K H q (ns.map V.int) := by
  unfold S.ints at e
  split at e
  · obtain ⟨q, vs, rfl, hq, da⟩ := h
    rw [intsOf_eq e] at da
    rw [da.map_int] at hq
    exact ⟨q, rfl, SqL.of hq⟩
  · have h : Dn K W H (.lst _) x := h
    cases h with
    | lst h1 h2 h3 =>
      rw [intsOf_eq e] at h3
      rw [h3.map_int] at h2
      exact ⟨_, rfl, SqL.of h2⟩
  · have h : Dn K W H (.rls _) x := h
    cases h with
    | rls h1 h3 =>
      rw [intsOf_eq e] at h3
      have := h1.sq
      rw [h3.map_int] at this
      exact ⟨_, rfl, this⟩
  · cases e
theorem flat_ints (ns : List Int) : (ns.map V.int).all flatV = true := by
  rw [List.all_eq_true]; intro x hx; obtain ⟨b, _, rfl⟩ := List.mem_map.mp hx; rfl
theorem idx_ints : ∀ {bs : List Int} {n : Int}, n ∈ bs → bs[bs.idxOf n]? = some n ∧ ∀ m z, m < bs.idxOf n → bs[m]? = some z → z ≠ n
  | [], n, h => by simp at h
  | b :: bs, n, h => by
    by_cases c : b = n
    · subst c
      have e : (b :: bs).idxOf b = 0 := by simp
      rw [e]
      exact ⟨rfl, fun m z hm => absurd hm (Nat.not_lt_zero _)⟩
    · have h : n ∈ bs := by
        rcases List.mem_cons.mp h with z | z
        · exact absurd z.symm c
        · exact z
      obtain ⟨h1, h2⟩ := idx_ints h
      have e : (b :: bs).idxOf n = bs.idxOf n + 1 := by rw [List.idxOf_cons, beq_eq_false_iff_ne.mpr c]; rfl
      rw [e]
      refine ⟨by simpa using h1, fun m z hm hz => ?_⟩
      cases m with
      | zero => simp at hz; rw [← hz]; exact c
      | succ m => exact h2 m z (by omega) (by simpa using hz)
def wIdxV (i : Nat) (we : WE) : WE := fun Z ρ R => (∃ s0 ns0, ρ.sl[i]? = some (some s0) ∧ s0.ints = some ns0) ∧ we Z ρ fun k ρ1 => match ρ1.sl[i]? with
  | some (some s) => ∃ ns n, s.ints = some ns ∧ k.frz = .int n ∧ n ∈ ns ∧ R (.d (.int (ns.idxOf n : Nat))) ρ1
  | _ => False
theorem de_indexV {x : Str} (i : Nat) (he : DE X G T e we) (hN : X.N[i]? = some x := by rfl) (hv : Vis X.env.scope x := by first | exact Or.inl rfl | exact Or.inr (Or.inl rfl) | exact Or.inr (Or.inr rfl)) (hd : (x == ("__debug__" : Str)) = false := by decide) (hcd : (x == ("__classdict__" : Str)) = false := by decide)
    (hst : starEach [e] X.env = (false, eval e X.env) :: starEach [] X.env := by rfl)
    (hbase : attributeBase (.Name x p) "index" X.env (eval (.Name x p) X.env) = eval (.Name x p) X.env := by rfl)
    (hfew : ((backTo cpos (starEach (e :: []) X.env)).all (fun x => !x.1) && (backToKw cpos (keywordEach [] X.env)).all (fun x => x.1.isSome) && decide ((e :: []).length + ([] : List Keyword).length + (if ([] : List Keyword).isEmpty then 0 else 1) < 30)) = true := by rfl)
    (hline : (apos.endLine == cpos.line) = true := by rfl) :
    DE X G T (.Call (.Attribute (.Name x p) "index" apos) [e] [] cpos) (wIdxV i we) :=
  pe_weak (pe_bm PySem.F.plainAttrs_list PySem.F.slot_list_index PySem.F.type_list_index mt_index (pv i hN hv hd hcd) (pa_cons he pa_nil hst) hbase hfew hline hst rfl) fun σ H Q ⟨W, ρ, R, Z, ok, ⟨⟨s0, ns0, e0, e00⟩, h⟩, hR, hZ⟩ => by
    obtain ⟨y, ey, r0⟩ := ok.val i _ e0
    obtain ⟨q, rfl, hq⟩ := ints_at r0 e00
    refine ⟨_, ey, .inl ⟨rfl, _, hq⟩, ?_⟩
    refine lE_then (R := fun k ρ1 => match ρ1.sl[i]? with
      | some (some s) => ∃ ns n, s.ints = some ns ∧ k = .int n ∧ n ∈ ns ∧ R (.d (.int (ns.idxOf n : Nat))) ρ1
      | _ => False) ok h hZ fun k ρ1 W1 x1 H1 h1 g1 d1 => ?_
    split at h1
    · rename_i s e1
      obtain ⟨ns, n, f1, rfl, f3, f4⟩ := h1
      obtain ⟨y1, ey1, r1⟩ := g1.ok.val i _ e1
      rw [ey] at ey1; cases ey1
      obtain ⟨q', eq, hq'⟩ := ints_at r1 f1
      cases eq
      cases d1
      obtain ⟨k1, k2⟩ := idx_ints f3
      refine ⟨q, ns.map V.int, .int n, ns.idxOf n, .int n, rfl, rfl, hq', rfl, flat_ints ns, by rw [List.getElem?_map, k1]; rfl, beq_self_eq_true n, fun m z hm hz => ?_, hR _ ρ1 W1 _ H1 f4 g1 (.of (.int _))⟩
      rw [List.getElem?_map] at hz
      obtain ⟨w, hw, rfl⟩ := Option.map_eq_some_iff.mp hz
      have := k2 m w hm hw
      exact beq_eq_false_iff_ne.mpr this
    · exact h1.elim
end
/-! ### len(x), x a slot with an own dict -/
section
variable {X : Cx} {G : Gx} {T : WX} {p pos cpos : Pos}
def wLenDV (i : Nat) : WE := fun _ ρ R => match ρ.sl[i]? with
  | some (some (.odic kvs)) => R (.d (.int kvs.length)) ρ
  | _ => False
theorem de_lenDV (i : Nat) {x : Str} (hg : Gl X "len") (hm : X.mg "len" = none) (hN : X.N[i]? = some x := by rfl) (hv : Vis X.env.scope x := by first | exact Or.inl rfl | exact Or.inr (Or.inl rfl) | exact Or.inr (Or.inr rfl)) (hd : (x == ("__debug__" : Str)) = false := by decide)
    (hcd : (x == ("__classdict__" : Str)) = false := by decide) (hst : starEach [.Name x pos] X.env = (false, eval (.Name x pos) X.env) :: starEach [] X.env := by rfl) : DE X G T (.Call (.Name "len" p) [.Name x pos] [] cpos) (wLenDV i) :=
  pe_weak (pe_callB cr_lenD hg hm PySem.boot_len (pa_cons (pv i hN hv hd hcd) pa_nil hst) (by decide) (by decide) hst rfl) fun σ H Q ⟨W, ρ, R, Z, ok, h, hR, hZ⟩ => by
    unfold wLenDV at h
    split at h
    · rename_i kvs e
      obtain ⟨x, ex, q, vs, rfl, hq, da⟩ := ok.val i _ e
      refine ⟨_, ex, q, vs, rfl, .inl hq, ?_⟩
      rw [← da.length]
      exact hR _ _ _ _ _ h (.refl ok) (.of (.int _))
    · exact h.elim
end
end DL


/-! ML22: a dict of the caller's that a def changes. -/
namespace DL
open PySem PySem.Spec L2
section
variable {α β : Type} {X : Cx} {G : Gx} {T : WX} {a b c e : Expr} {ma mb mk w wk : EM S} {pos p px tpos : Pos} {i k j : Nat} {p0 p1 p2 : Str} {ρ : Sl} {g : FM} {neg : Bool}
def celM (o : Option (Option S)) (μ : Mem) (f : Nat → List (Key × D) → M β) : M β := match o with
  | some (some (.d (.cell j))) => optM (dicC μ j) (f j)
  | _ => M.bad
@[simp ↓] theorem celM_s {j : Nat} {μ : Mem} {f : Nat → List (Key × D) → M β} : celM (some (some (.d (.cell j)))) μ f = optM (dicC μ j) (f j) := rfl
@[simp ↓] theorem dicC_app {μ : Mem} {kvs : List (Key × D)} : dicC (μ ++ [dCell kvs]) μ.length = some kvs := dicC_d (by rw [List.getElem?_append_right (Nat.le_refl _), Nat.sub_self]; rfl)
@[simp ↓] theorem set_app {μ : Mem} {c c' : Cell} : (μ ++ [c]).set μ.length c' = μ ++ [c'] := by
  rw [List.set_append_right _ _ (Nat.le_refl _), Nat.sub_self]; rfl
theorem wp_celM {o : Option (Option S)} {μ μ' : Mem} {f : Nat → List (Key × D) → M β} {P : β → Mem → Prop} : (celM o μ f).wp μ' P = match o with
    | some (some (.d (.cell j))) => ∃ kvs, dicC μ j = some kvs ∧ (f j kvs).wp μ' P
    | _ => False := by
  unfold celM
  split
  · exact wp_optM
  · rfl
theorem wp_keyM {o : Option Key} {μ : Mem} {f : Key → M β} {P : β → Mem → Prop} : (keyM o f).wp μ P = ∃ κ, o = some κ ∧ (f κ).wp μ P := by
  cases o with
  | none => exact propext ⟨fun h => h.elim, fun ⟨_, h, _⟩ => by cases h⟩
  | some κ => exact propext ⟨fun h => ⟨κ, rfl, h⟩, fun ⟨_, h, q⟩ => by cases h; exact q⟩
theorem ex2_congr {p : List (Key × D) → Prop} {q : Key → Prop} {r : List (Key × D) → Key → Prop} : (∃ kvs, p kvs ∧ ∃ κ, q κ ∧ r kvs κ) = ∃ kvs κ, p kvs ∧ q κ ∧ r kvs κ :=
  propext ⟨fun ⟨kvs, h1, κ, h2, h3⟩ => ⟨kvs, κ, h1, h2, h3⟩, fun ⟨kvs, κ, h1, h2, h3⟩ => ⟨kvs, h1, κ, h2, h3⟩⟩
def mDinC (neg : Bool) (i : Nat) (mk : EM S) : EM S := fun ρ => (bindE (mk ρ) fun k ρ1 => M.ask fun μ => celM ρ1[i]? μ fun _ kvs => keyM k.frz.key fun κ => ok (.d (.bl ((valD kvs κ).isSome ^^ neg))) ρ1).req (∃ s0, ρ[i]? = some (some s0))
@[simp ↓] theorem m_dinC : mDinC neg i mk ρ = (bindE (mk ρ) fun k ρ1 => M.ask fun μ => celM ρ1[i]? μ fun _ kvs => keyM k.frz.key fun κ => ok (.d (.bl ((valD kvs κ).isSome ^^ neg))) ρ1).req (∃ s0, ρ[i]? = some (some s0)) := rfl
theorem tw_dinC : tw (mDinC neg i mk) = wDinC neg i (tw mk) := by
  funext Z ρ R
  simp only [tw, mDinC, twE, wp_req, wDinC, wp_ask, wp_celM, wp_keyM, wp_ok, oc_v]
  congr 2
  funext r μ1
  congr 1
  funext k
  try dsimp only
  generalize r.snd[i]? = o
  rcases o with _ | _ | s
  · rfl
  · rfl
  · cases s with
    | d x => cases x with
      | cell j => exact ex2_congr
      | _ => rfl
    | _ => rfl
def mDputC (i : Nat) (wk w : EM S) : SM := fun ρ => bindES (w ρ) fun d ρ1 => (bindES (wk ρ1) fun k ρ2 => M.ask fun μ => celM ρ2[i]? μ fun j kvs => keyM k.frz.key fun κ => (M.upd (fun μ => μ.set j (dCell (putD kvs κ d.frz))) (nx ρ2)).req (kvs.length < sizeLine)).req (∃ s0, ρ1[i]? = some (some s0))
@[simp ↓] theorem m_dputC : mDputC i wk w ρ = bindES (w ρ) fun d ρ1 => (bindES (wk ρ1) fun k ρ2 => M.ask fun μ => celM ρ2[i]? μ fun j kvs => keyM k.frz.key fun κ => (M.upd (fun μ => μ.set j (dCell (putD kvs κ d.frz))) (nx ρ2)).req (kvs.length < sizeLine)).req (∃ s0, ρ1[i]? = some (some s0)) := rfl
theorem ts_dputC : ts (mDputC i wk w) = wDputC i (tw wk) (tw w) := by
  funext E ρ
  simp only [ts, mDputC, twS, wp_req, wDputC, wp_ask, wp_celM, wp_keyM, wp_upd, wp_nx, flC]
  congr 1
  funext r μ1
  congr 1
  funext k
  congr 2
  funext r μ1
  congr 1
  funext k
  try dsimp only
  generalize r.snd[i]? = o
  rcases o with _ | _ | s
  · rfl
  · rfl
  · cases s with
    | d x => cases x with
      | cell j => exact ex2_congr
      | _ => rfl
    | _ => rfl
/-- a def with a dict that it changes: its answer, the dict behind it -/
def withD (g : FM) (as : List D) (kvs : List (Key × D)) : M (S × List (Key × D)) :=
  ⟨fun μ P => (g (as ++ [.cell μ.length])).wp (μ ++ [dCell kvs]) fun r μ' => ∃ s kvs', r = .v s ∧ s.plain ∧ (∀ d ∈ kvs', d.2.sc = true) ∧ μ' = μ ++ [dCell kvs'] ∧ P (s, kvs') μ,
    fun h q => (g _).mono (fun r μ' ⟨s, kvs', h1, h2, h3, h4, h5⟩ => ⟨s, kvs', h1, h2, h3, h4, h _ _ h5⟩) q⟩
theorem withD_one {as : List D} {kvs kvs' : List (Key × D)} {s : S} (h : ∀ μ P, (g (as ++ [.cell μ.length])).wp (μ ++ [dCell kvs]) P = P (.v s) (μ ++ [dCell kvs'])) (hs : s.plain) (hk : ∀ d ∈ kvs', d.2.sc = true) : withD g as kvs = M.one (s, kvs') := by
  refine M.ext fun μ P => ?_
  show (g (as ++ [.cell μ.length])).wp (μ ++ [dCell kvs]) _ = _
  rw [h]
  refine propext ⟨fun ⟨s', k', h1, h2, h3, h4, h5⟩ => ?_, fun q => ⟨s, kvs', rfl, hs, hk, rfl, q⟩⟩
  cases h1
  have := List.append_cancel_left h4
  cases this
  exact h5
def mCallO (i : Nat) (g : FM) (ma mb : EM S) : EM S := fun ρ => (bindE (ma ρ) fun x ρ1 => bindE (mb ρ1) fun y ρ2 => odicM ρ2[i]? fun kvs => (withD g [x.frz, y.frz] kvs).bind fun r => ok r.1 (ρ2.set i (some (.odic r.2)))).req (∃ s0, ρ[i]? = some (some s0))
@[simp ↓] theorem m_callO : mCallO i g ma mb ρ = (bindE (ma ρ) fun x ρ1 => bindE (mb ρ1) fun y ρ2 => odicM ρ2[i]? fun kvs => (withD g [x.frz, y.frz] kvs).bind fun r => ok r.1 (ρ2.set i (some (.odic r.2)))).req (∃ s0, ρ[i]? = some (some s0)) := rfl
theorem tw_callO : tw (mCallO i g ma mb) = wCallO i (tf g) (tw ma) (tw mb) := by
  funext Z ρ R
  simp only [tw, mCallO, twE, wp_req, wCallO]
  congr 2
  funext r μ1
  congr 1
  funext x
  congr 1
  funext r μ1
  congr 1
  funext y
  try dsimp only
  generalize r.snd[i]? = o
  rcases o with _ | _ | s
  · rfl
  · rfl
  · cases s with
    | odic kvs =>
      show (g _).wp _ _ = (g _).wp _ _
      congr 1
      funext r' μ'
      cases r' with
      | v s => exact propext ⟨fun ⟨s', k', h1, h2, h3, h4, h5⟩ => by cases h1; exact ⟨h2, k', h3, h4, h5⟩, fun ⟨h2, k', h3, h4, h5⟩ => ⟨s, k', rfl, h2, h3, h4, h5⟩⟩
      | x e => exact propext ⟨fun ⟨s', k', h1, _⟩ => (by cases h1), fun h => h.elim⟩
    | _ => rfl
theorem qt_dninC (i : Nat) {x : Str} (hG : G.W.g = X.mg) (hn : X.mg "dict" = none) (hu : X.A.units + 1 < cLine) (hk : QE X G T a mk) (hN : X.N[i]? = some x := by rfl) (hv : Vis X.env.scope x := by first | exact Or.inl rfl | exact Or.inr (Or.inl rfl) | exact Or.inr (Or.inr rfl)) (hd : (x == ("__debug__" : Str)) = false := by decide)
    (hcd : (x == ("__classdict__" : Str)) = false := by decide) (hm : behindInMarks .NotIn (.Name x p) = false := by rfl) : QT X G T (.Compare a [.NotIn] [.Name x p] pos) (mB (mDinC true i mk)) := by
  unfold QT; rw [tw_B, tw_dinC]
  exact pt_weak (pt_cmp (h1 := hm) (pc_dnotin hu hk (pv i hN hv hd hcd))) fun _ _ _ h => lT_B (fun _ q => by have := dinC_then hG hn q; simp only [Bool.xor_true] at this; exact this) h
theorem qs_dputC (i : Nat) {x : Str} {idx : Expr} (hG : G.W.g = X.mg) (hn : X.mg "dict" = none) (hu : X.A.units + 1 < cLine) (he : QE X G T e w) (hk : QE X G T idx wk) (hN : X.N[i]? = some x := by rfl) (hv : Vis X.env.scope x := by first | exact Or.inl rfl | exact Or.inr (Or.inl rfl) | exact Or.inr (Or.inr rfl)) (hd : (x == ("__debug__" : Str)) = false := by decide) (hcd : (x == ("__classdict__" : Str)) = false := by decide)
    (hs : swapsWith e (some (.Subscript (.Name x p) idx tpos)) pos.line X.env = pure false := by rfl) :
    QS X G T (.Assign [.Subscript (.Name x p) idx tpos] e pos) (mDputC i wk w) := by unfold QS; rw [ts_dputC]; exact ds_dputC i hG hn hu he hk hN hv hd hcd hs
theorem qe_callO (i : Nat) {x y : Str} {st : Stmt} (C : CxG X T k) (hG : G.W.g = X.mg) (hn : X.mg "dict" = none) (F : Df X.prog X.w X.K X.mg X.base j x st [p0, p1, p2] (tf g)) (hj : j ≤ k) (ha : QE X G T a ma) (hb : QE X G T b mb)
    (hN : X.N[i]? = some y := by rfl) (hv : Vis X.env.scope y := by first | exact Or.inl rfl | exact Or.inr (Or.inl rfl) | exact Or.inr (Or.inr rfl)) (hd : (y == ("__debug__" : Str)) = false := by decide) (hcd : (y == ("__classdict__" : Str)) = false := by decide)
    (hg : Gl X x := by rfl) (hdb : (x == ("__debug__" : Str)) = false := by decide)
    (he : starEach [a, b, .Name y px] X.env = (false, eval a X.env) :: starEach [b, .Name y px] X.env := by rfl) (he2 : starEach [b, .Name y px] X.env = (false, eval b X.env) :: starEach [.Name y px] X.env := by rfl) (he3 : starEach [.Name y px] X.env = (false, eval (.Name y px) X.env) :: starEach [] X.env := by rfl)
    (hpl : (backTo pos (starEach [b, .Name y px] X.env)).any (·.1) = false := by rfl) : QE X G T (.Call (.Name x p) [a, b, .Name y px] [] pos) (mCallO i g ma mb) := by
  unfold QE; rw [tw_callO]
  obtain ⟨f, fd, h1, h2, h3, h4⟩ := F
  exact de_callO i C hG hn h4 hj h1 h2.kp h3 ha hb hN hv hd hcd hg hdb he he2 he3 hpl
end
section
variable {f : Mem → MS} {g : Mem → Mem} {m : MS} {k : Sl → MS} {vs : List Nat}
@[simp ↓] theorem bL_ask : bindL (M.ask f) k = M.ask fun μ => bindL (f μ) k := rfl
@[simp ↓] theorem bL_upd : bindL (M.upd g m) k = M.upd g (bindL m k) := rfl
@[simp ↓] theorem lE_ask : loopEnd vs (M.ask f) = M.ask fun μ => loopEnd vs (f μ) := rfl
@[simp ↓] theorem lE_upd : loopEnd vs (M.upd g m) = M.upd g (loopEnd vs m) := rfl
end
/-- a while that changes cells, too: told turn by turn -/
theorem mWhile_runM {σ : Type} {t : EM Bool} {b : SM} {vs : List Nat} {ρ : Sl} {μ : Mem} (enc : σ → Sl) (mem : σ → Mem) (F : σ → (Fl × Sl → Mem → Prop) → Prop) (f : σ → Nat) (ok : σ → Prop)
    (hs : ∀ s, ok s → (∀ K P, (bindES (t (enc s)) fun c ρ1 => if c = true then bindL (loopEnd vs (b ρ1)) K else nx ρ1).wp (mem s) P = F s P) ∨ ∃ s', ok s' ∧ f s' < f s ∧ F s' = F s ∧ ∀ K P, (bindES (t (enc s)) fun c ρ1 => if c = true then bindL (loopEnd vs (b ρ1)) K else nx ρ1).wp (mem s) P = (K (enc s')).wp (mem s') P)
    (s : σ) (h : ok s) (e : wipeS ρ vs = enc s) (em : μ = mem s) {P : Fl × Sl → Mem → Prop} : (mWhile t b vs ρ).wp μ P = F s P := by
  subst em
  have key : ∀ m s, f s < m → ok s → ∃ N, ∀ n P, (mWhileN t b vs n (enc s)).wp (mem s) P = if N < n then F s P else False := by
    intro m
    induction m with
    | zero => exact fun s h => absurd h (Nat.not_lt_zero _)
    | succ m ih =>
      intro s hf ho
      rcases hs s ho with h | ⟨s', h1, h2, h3, h4⟩
      · refine ⟨0, fun n P => ?_⟩
        cases n with
        | zero => rfl
        | succ n => rw [if_pos (Nat.succ_pos _)]; exact h _ P
      · obtain ⟨N, hN⟩ := ih s' (by omega) h1
        refine ⟨N + 1, fun n P => ?_⟩
        cases n with
        | zero => rfl
        | succ n =>
          have : (mWhileN t b vs (n + 1) (enc s)).wp (mem s) P = (mWhileN t b vs n (enc s')).wp (mem s') P := h4 _ P
          rw [this, hN, h3]
          by_cases c : N < n
          · rw [if_pos c, if_pos (by omega)]
          · rw [if_neg c, if_neg (by omega)]
  obtain ⟨N, hN⟩ := key _ s (Nat.lt_succ_self _) h
  refine propext ⟨fun h => ?_, fun h => ⟨N + 1, ?_⟩⟩
  · obtain ⟨n, hn⟩ := h
    rw [e, hN] at hn
    split at hn
    · exact hn
    · exact hn.elim
  · rw [e, hN, if_pos (Nat.lt_succ_self _)]; exact h
/-! ### xs.index(e) -/
section
variable {β : Type} {X : Cx} {G : Gx} {T : WX} {e : Expr} {me : EM S} {p apos cpos : Pos} {ρ : Sl} {i : Nat}
def intsM (o : Option (Option S)) (f : List Int → M β) : M β := match o with
  | some (some s) => optM s.ints f
  | _ => M.bad
@[simp ↓] theorem intsM_s {s : S} {f : List Int → M β} : intsM (some (some s)) f = optM s.ints f := rfl
@[simp ↓] theorem ints_lst {ns : List Int} : (S.d (.lst (ns.map .int))).ints = some ns := intsOf_map
def intM (d : D) (f : Int → M β) : M β := match d with
  | .int n => f n
  | _ => M.bad
@[simp ↓] theorem intM_i {n : Int} {f : Int → M β} : intM (.int n) f = f n := rfl
def mIdxV (i : Nat) (me : EM S) : EM S := fun ρ => (bindE (me ρ) fun k ρ1 => intsM ρ1[i]? fun ns => intM k.frz fun n => (ok (.d (.int (ns.idxOf n : Nat))) ρ1).req (n ∈ ns)).req (∃ s0 ns0, ρ[i]? = some (some s0) ∧ s0.ints = some ns0)
@[simp ↓] theorem m_idxV : mIdxV i me ρ = (bindE (me ρ) fun k ρ1 => intsM ρ1[i]? fun ns => intM k.frz fun n => (ok (.d (.int (ns.idxOf n : Nat))) ρ1).req (n ∈ ns)).req (∃ s0 ns0, ρ[i]? = some (some s0) ∧ s0.ints = some ns0) := rfl
theorem tw_idxV : tw (mIdxV i me) = wIdxV i (tw me) := by
  funext Z ρ R
  simp only [tw, mIdxV, twE, wp_req, wIdxV]
  congr 2
  funext r μ1
  congr 1
  funext k
  try dsimp only
  generalize r.snd[i]? = o
  rcases o with _ | _ | s
  · rfl
  · rfl
  · show (optM s.ints _).wp μ1 _ = _
    rw [wp_optM]
    generalize k.frz = d
    refine propext ⟨fun ⟨ns, h1, h2⟩ => ?_, fun ⟨ns, n, h1, h2, h3, h4⟩ => ⟨ns, h1, by subst h2; exact ⟨h3, h4⟩⟩⟩
    cases d <;> first | exact h2.elim | exact ⟨ns, _, h1, rfl, h2.1, h2.2⟩
theorem qe_indexV {x : Str} (i : Nat) (he : QE X G T e me) (hN : X.N[i]? = some x := by rfl) (hv : Vis X.env.scope x := by first | exact Or.inl rfl | exact Or.inr (Or.inl rfl) | exact Or.inr (Or.inr rfl)) (hd : (x == ("__debug__" : Str)) = false := by decide) (hcd : (x == ("__classdict__" : Str)) = false := by decide)
    (hst : starEach [e] X.env = (false, eval e X.env) :: starEach [] X.env := by rfl)
    (hbase : attributeBase (.Name x p) "index" X.env (eval (.Name x p) X.env) = eval (.Name x p) X.env := by rfl)
    (hfew : ((backTo cpos (starEach (e :: []) X.env)).all (fun x => !x.1) && (backToKw cpos (keywordEach [] X.env)).all (fun x => x.1.isSome) && decide ((e :: []).length + ([] : List Keyword).length + (if ([] : List Keyword).isEmpty then 0 else 1) < 30)) = true := by rfl)
    (hline : (apos.endLine == cpos.line) = true := by rfl) :
    QE X G T (.Call (.Attribute (.Name x p) "index" apos) [e] [] cpos) (mIdxV i me) := by
  unfold QE; rw [tw_idxV]; exact de_indexV i he hN hv hd hcd hst hbase hfew hline
end
/-! ### len(x), x an own dict -/
section
variable {X : Cx} {G : Gx} {T : WX} {p pos cpos : Pos} {ρ : Sl} {i : Nat}
def mLenDV (i : Nat) : EM S := fun ρ => odicM ρ[i]? fun kvs => ok (.d (.int kvs.length)) ρ
@[simp ↓] theorem m_lenDV : mLenDV i ρ = odicM ρ[i]? fun kvs => ok (.d (.int kvs.length)) ρ := rfl
theorem tw_lenDV : tw (mLenDV i) = wLenDV i := by
  funext Z ρ R
  simp only [tw, mLenDV, wLenDV]
  generalize ρ.sl[i]? = o
  rcases o with _ | _ | s <;> first | rfl | (cases s <;> rfl)
theorem qe_lenDV (i : Nat) {x : Str} (hg : Gl X "len") (hm : X.mg "len" = none) (hN : X.N[i]? = some x := by rfl) (hv : Vis X.env.scope x := by first | exact Or.inl rfl | exact Or.inr (Or.inl rfl) | exact Or.inr (Or.inr rfl)) (hd : (x == ("__debug__" : Str)) = false := by decide)
    (hcd : (x == ("__classdict__" : Str)) = false := by decide) (hst : starEach [.Name x pos] X.env = (false, eval (.Name x pos) X.env) :: starEach [] X.env := by rfl) : QE X G T (.Call (.Name "len" p) [.Name x pos] [] cpos) (mLenDV i) := by
  unfold QE; rw [tw_lenDV]; exact de_lenDV i hg hm hN hv hd hcd hst
end
end DL


/-! DL37: the truth of an instance without a __bool__ and a __len__. -/
namespace DL
open PySem PySem.Spec L2
section
variable {X : Cx} {G : Gx} {T : WX} {a : Expr} {wa : WE} {ma : EM S} {C : Str} {ρ : Sl}
end
end DL


/-! DL38: sorted of a tuple of ints. -/
namespace DL
open PySem PySem.Spec L2 PyProof.Rows
section
variable {prog : Program} {w : World} {A : Around} {E : Value → Shared → Prop} {s : Shared}
end
end DL


/-! DL39: a built-in value == an instance with its own __eq__. -/
namespace PySem.W
open PySem PySem.Spec PySem.Calls PyProof.Rows
section
variable {prog : Program} {w : World} {A : Around} {E : Value → Shared → Prop} {s : Shared} {K : Frag} {x C f : Addr} {ox : Obj} {od : Option Obj} {a : Value} {Ta ida : String}
end
end PySem.W
namespace DL
open PySem PySem.Spec L2
/-- a value of the language's own kinds -/
def D.bi : D → Bool
  | .non => true
  | .bl _ => true
  | .int _ => true
  | .str _ => true
  | .tup _ => true
  | .lst _ => true
  | .rls _ => true
  | .dic _ => true
  | _ => false
section
variable {X : Cx} {G : Gx} {T : WX} {a b c e : Expr} {wa wb : WE} {ma mb : EM S} {pos p : Pos} {i k j : Nat} {C : Str} {wf : WF} {p0 p1 : Str} {ps : List Str} {ρ : Sl} {g : FM}
end
end DL


/-! DL40: bool(x) of an instance with its own __len__. -/
namespace DL
open PySem PySem.Spec L2 PyProof.Rows
section
variable {prog : Program} {w : World} {A : Around} {E : Value → Shared → Prop} {s : Shared} {K : PySem.W.Frag} {x C f : Addr} {ox : Obj} {od : Option Obj}
end
section
variable {X : Cx} {G : Gx} {T : WX} {a : Expr} {wa : WE} {ma : EM S} {pos p : Pos} {k j : Nat} {C : Str} {wf : WF} {p0 : Str} {ρ : Sl} {g : FM}
end
end DL


/-! DL41: bool(x) of an instance with its own __bool__. -/
namespace DL
open PySem PySem.Spec L2 PyProof.Rows
section
variable {prog : Program} {w : World} {A : Around} {E : Value → Shared → Prop} {s : Shared} {K : PySem.W.Frag} {x C f : Addr} {ox : Obj} {od : Option Obj}
end
section
variable {X : Cx} {G : Gx} {T : WX} {a : Expr} {wa : WE} {ma : EM S} {pos p : Pos} {k j : Nat} {C : Str} {wf : WF} {p0 : Str} {ρ : Sl} {g : FM}
end
end DL


/-! DL42: what the module's top holds: dicts of ints with text keys, tuples of texts. -/
namespace DL
open PySem PySem.Spec L2
def tabFits : List DictEntry → List (Str × Int) → Bool
  | [], [] => true
  | e :: es, (k, v) :: r => (match e.key, e.val with
    | .str x _, .int i _ => x == k && i == v
    | _, _ => false) && tabFits es r
  | _, _ => false
def tabAt (tab : List (Str × Int)) (z : Str) : Option Int := (tab.find? fun p => p.1 == z).map (·.2)
theorem tabFits_find {z : Str} : ∀ {es : List DictEntry} {tab : List (Str × Int)}, tabFits es tab = true → es.any (·.refKey) = false ∧ (match tabAt tab z with
    | some i => ∃ e t, es.find? (·.key.isStr z) = some e ∧ e.val = .int i t
    | none => es.find? (·.key.isStr z) = none)
  | [], [], _ => ⟨rfl, rfl⟩
  | e :: es, (k, v) :: r, h => by
    unfold tabFits at h
    rw [Bool.and_eq_true] at h
    obtain ⟨h1, h2⟩ := h
    split at h1
    · rename_i x _ i t ek ev
      rw [Bool.and_eq_true] at h1
      have e1 : x = k := beq_iff_eq.mp h1.1
      have e2 : i = v := beq_iff_eq.mp h1.2
      subst e1 e2
      obtain ⟨i1, i2⟩ := tabFits_find (z := z) h2
      have hr : e.refKey = false := by unfold DictEntry.refKey; rw [ek]
      refine ⟨by rw [List.any_cons, hr, i1]; rfl, ?_⟩
      unfold tabAt
      have hs : e.key.isStr z = (x == z) := by
        rw [ek]
        rfl
      cases q : x == z with
      | true =>
        rw [List.find?_cons_of_pos (by exact q)]
        exact ⟨e, t, List.find?_cons_of_pos (by rw [hs]; exact q), ev⟩
      | false =>
        rw [List.find?_cons_of_neg (by rw [q]; decide)]
        unfold tabAt at i2
        rw [List.find?_cons_of_neg (by rw [hs, q]; decide)]
        exact i2
    · cases h1
  | [], _ :: _, h => by cases h
  | _ :: _, [], h => by cases h
/-- a dict of the module: text keys, ints -/
def KTab (w : World) (K : PySem.W.Frag) (mg : Str → Option Value) (x : Str) (tab : List (Str × Int)) : Prop :=
  ∃ a es n, mg x = some (.ref a) ∧ KDict K w a es n ∧ tabFits es.toList tab = true
theorem KTab.at_ {K : PySem.W.Frag} {a : Addr} {es : Array DictEntry} {n : Nat} {tab : List (Str × Int)} (l : K.lookup a = some ⟨.type "dict", none, .dict es n, #[]⟩) (h : tabFits es.toList tab = true) (z : Str) : match tabAt tab z with
    | some i => ∃ t, PySem.W.nsIn K a z = some (some (.int i t))
    | none => PySem.W.nsIn K a z = some none := by
  obtain ⟨h1, h2⟩ := tabFits_find (z := z) h
  unfold PySem.W.nsIn
  rw [l]
  cases q : tabAt tab z with
  | some i =>
    rw [q] at h2
    obtain ⟨e, t, e1, e2⟩ := h2
    refine ⟨t, ?_⟩
    dsimp only
    rw [e1]
    exact congrArg (fun v => some (some v)) e2
  | none =>
    rw [q] at h2
    dsimp only at h2 ⊢
    rw [h2, h1]
    rfl
theorem ktab_mk {w : World} {K : PySem.W.Frag} {h : Heap} {mg : Str → Option Value} {x : Str} {a : Addr} {es : Array DictEntry} {n : Nat} {tab : List (Str × Int)} (X : K.In h) (G : h.Ns mainGlobals mg) (z : PySem.W.nsIn K mainGlobals x = some (some (.ref a)))
    (l : K.lookup a = some ⟨.type "dict", none, .dict es n, #[]⟩) (k : PySem.W.KeysLit w.params es.toList) (o : (a == sysModules) = false) (t : tabFits es.toList tab = true) : KTab w K mg x tab := ⟨a, es, n, PySem.W.mg_of X G z, ⟨l, k, o⟩, t⟩
def fTabIn (ng : Bool) (tab : List (Str × Int)) (d : D) (R : S → Prop) : Prop := ∃ z, d = .str z ∧ R (.d (.bl ((tabAt tab z).isSome != ng)))
def fTabIx (tab : List (Str × Int)) (d : D) (R : S → Prop) : Prop := ∃ z i, d = .str z ∧ tabAt tab z = some i ∧ R (.d (.int i))
@[simp] theorem l_tabIn {ng : Bool} {tab : List (Str × Int)} {z : Str} : M.lift (fTabIn ng tab (.str z)) = M.one (.d (.bl ((tabAt tab z).isSome != ng))) := lift_one fun R => propext ⟨fun ⟨_, e, h⟩ => by cases e; exact h, fun h => ⟨z, rfl, h⟩⟩
theorem l_tabIx {tab : List (Str × Int)} {z : Str} {i : Int} (h : tabAt tab z = some i) : M.lift (fTabIx tab (.str z)) = M.one (.d (.int i)) := lift_one fun R => propext ⟨fun ⟨_, _, e, e2, q⟩ => by cases e; rw [h] at e2; cases e2; exact q, fun q => ⟨z, i, rfl, h, q⟩⟩
section
variable {X : Cx} {G : Gx} {T : WX} {a : Expr} {ma : EM S} {pos p : Pos} {x : Str} {tab : List (Str × Int)}
theorem un_bin {f : D → (S → Prop) → Prop} {d : D} : mBin (fun u v R => v = d ∧ f u R) ma (mC d) = mUn f ma := by
  funext ρ
  show bindE (ma ρ) _ = bindE (ma ρ) _
  congr 1
  funext u ρ1
  show putM (M.lift _) ρ1 = putM (M.lift _) ρ1
  congr 2
  funext R
  exact propext ⟨fun h => h.2, fun h => ⟨rfl, h⟩⟩
theorem tab_name (hT : KTab X.w X.K X.mg x tab) (hg : Gl X x) (hd : (x == ("__debug__" : Str)) = false) : ∃ (a : Addr) (es : Array DictEntry) (n : Nat), KDict X.K X.w a es n ∧ tabFits es.toList tab = true ∧ QE X G T (.Name x p) (mC (.v (.ref a))) := by
  obtain ⟨a, es, n, hm, D, hf⟩ := hT
  exact ⟨a, es, n, D, hf, qe_c (de_const (pe_glob (v := .ref a) hg hm rfl hd) fun _ _ => .v _)⟩
theorem od_tabNin {K : PySem.W.Frag} {a : Addr} {es : Array DictEntry} {n : Nat} {w : World} (D : KDict K w a es n) (hf : tabFits es.toList tab = true) : OpD K (fun x y H Q => ∃ (z : Str) (r : Option Value), x = .str z ∧ y = .ref a ∧ PySem.W.nsIn K a z = some r ∧ Q (.bl (!r.isSome)) H) (fun u v R => v = .v (.ref a) ∧ fTabIn true tab u R) := by
  intro G W ρ σ H d e x y R Q ok a b f k
  obtain ⟨rfl, z, rfl, hR⟩ := f
  cases a
  cases b
  have q := KTab.at_ D.at_ hf z
  cases e : tabAt tab z with
  | some i =>
    rw [e] at q hR
    obtain ⟨t, q⟩ := q
    exact ⟨z, _, rfl, rfl, q, k _ W _ H hR (.refl ok) (.of (.bl _))⟩
  | none =>
    rw [e] at q hR
    exact ⟨z, _, rfl, rfl, q, k _ W _ H hR (.refl ok) (.of (.bl _))⟩
theorem od_tabIx {K : PySem.W.Frag} {a : Addr} {es : Array DictEntry} {n : Nat} {w : World} (D : KDict K w a es n) (hf : tabFits es.toList tab = true) : OpD K (rIxD K w) (fun v u R => v = .v (.ref a) ∧ fTabIx tab u R) := by
  intro G W ρ σ H d e x y R Q ok da b f k
  obtain ⟨rfl, z, i, rfl, hi, hR⟩ := f
  cases da
  cases b
  have q := KTab.at_ D.at_ hf z
  rw [hi] at q
  obtain ⟨t, q⟩ := q
  exact ⟨a, z, .int i, rfl, rfl, ⟨es, n, _, D.at_, D.lit, q, ⟨t, rfl⟩⟩, k _ W _ H hR (.refl ok) (.of (.int _))⟩
variable (hg : Gl X x := by rfl) (hd : (x == ("__debug__" : Str)) = false := by decide)
theorem qt_tabNin (hT : KTab X.w X.K X.mg x tab) (ha : QE X G T a ma) (hg : Gl X x := by rfl) (hd : (x == ("__debug__" : Str)) = false := by decide) : QT X G T (.Compare a [.NotIn] [.Name x p] pos) (mB (mUn (fTabIn true tab) ma)) := by
  obtain ⟨d, es, n, D, hf, hn⟩ := tab_name (G := G) (T := T) (p := p) hT hg hd
  rw [← un_bin (d := .v (.ref d))]
  exact qt_cmp (op_notIn_kd D) (od_tabNin D hf) ha hn rfl
theorem bin_un {f : D → (S → Prop) → Prop} {d : D} : mBin (fun v u R => v = d ∧ f u R) (mC d) ma = mUn f ma := by
  funext ρ
  show bindE (ma ρ) _ = bindE (ma ρ) _
  congr 1
  funext u ρ1
  show putM (M.lift _) ρ1 = putM (M.lift _) ρ1
  congr 2
  funext R
  exact propext ⟨fun h => h.2, fun h => ⟨rfl, h⟩⟩
theorem qe_ixR {b : Expr} {mb : EM S} {r : R2} {f : D → D → (S → Prop) → Prop} (hr : IxR X r) (ho : OpD X.K r f) (ha : QE X G T a ma) (hb : QE X G T b mb) (hs : PlainIx b := by intro _ _; rfl) : QE X G T (.Subscript a b pos) (mBin f ma mb) := by
  unfold QE; rw [tw_bin]
  exact pe_weak (pe_ix hr ha hb hs) fun _ _ _ h => lE_bin (od_mc ho) h
theorem qe_tabIx {b : Expr} {mb : EM S} (hT : KTab X.w X.K X.mg x tab) (hb : QE X G T b mb) (hs : PlainIx b := by intro _ _; rfl) (hg : Gl X x := by rfl) (hd : (x == ("__debug__" : Str)) = false := by decide) : QE X G T (.Subscript (.Name x p) b pos) (mUn (fTabIx tab) mb) := by
  obtain ⟨d, es, n, D, hf, hn⟩ := tab_name (G := G) (T := T) (p := p) hT hg hd
  rw [← bin_un (d := .v (.ref d))]
  exact qe_ixR ix_kdict (od_tabIx D hf) hn hb hs
/-! ### tuples of texts -/
end
end DL


/-! DL43: what is never reached; bool(int); patterns as targets; x[k], y = a, b; zip; a star in a display. -/
namespace DL
open PySem PySem.Spec L2
section
variable {X : Cx} {G : Gx} {T : WX} {a b c e : Expr} {wa wb wc w : WE} {ma mb mk : EM S} {pos p p2 : Pos} {ρ : Sl}
/-! ### never reached -/
def mBadE {α : Type} : EM α := fun _ => M.bad
theorem qe_badE : QE X G T e mBadE := ⟨fun _ _ _ _ _ _ ⟨_, _, _, _, _, h, _⟩ => h.elim⟩
@[simp ↓] theorem m_badE {α : Type} : (mBadE : EM α) ρ = M.bad := rfl
/-! ### bool(an int), bool(a bool) -/
/-! ### targets: patterns of names -/
mutual
inductive Pat where
  | nm (i : Nat) | tup (ps : Pats)
inductive Pats where
  | nil | cons (p : Pat) (ps : Pats)
end
def Pats.len : Pats → Nat
  | .nil => 0
  | .cons _ ps => ps.len + 1
/-! ### x[k], y = a, b: x an own list -/
/-! ### zip of two tuples, of two lists -/
/-! ### a star in a display -/
end
end DL


/-! DL44: x[lo:hi] of an own list that stays its slot's own. -/
namespace DL
open PySem PySem.Spec L2
section
variable {X : Cx} {G : Gx} {T : WX} {a b c e : Expr} {wa wb wc w : WE} {ma mb mk : EM S} {pos p p2 : Pos} {ρ : Sl}
def wSlV (i : Nat) (wl wh : WO) : WE := fun Z ρ R => (∃ s0, ρ.sl[i]? = some (some s0)) ∧ wl Z ρ fun lo ρ2 => wh Z ρ2 fun hi ρ3 => match ρ3.sl[i]? with
  | some (some (.own ds)) => R (.own (cutD ds lo hi)) ρ3
  | _ => False
theorem de_slV (i : Nat) {x : Str} {lo hi : Option Expr} {wl wh : WO} (hl : DO X G T lo wl) (hu : DO X G T hi wh) (hN : X.N[i]? = some x := by rfl) (hv : Vis X.env.scope x := by first | exact Or.inl rfl | exact Or.inr (Or.inl rfl) | exact Or.inr (Or.inr rfl)) (hd : (x == ("__debug__" : Str)) = false := by decide)
    (hcd : (x == ("__classdict__" : Str)) = false := by decide) : DE X G T (.Subscript (.Name x p) (.Slice lo hi none p2) pos) (wSlV i wl wh) :=
  pe_weak (pe_slice sl_list (pv i hN hv hd hcd) hl hu) fun σ H Q ⟨W, ρ, R, Z, ok, ⟨⟨s0, e0⟩, h⟩, hR, hZ⟩ => by
    obtain ⟨x, _, ex, _⟩ := ok.look e0
    refine ⟨x, ex, ?_⟩
    refine ⟨W, ρ, _, Z, ok, h, fun lo ρ2 W2 H2 h2 g2 => ?_, hZ⟩
    refine ⟨W2, ρ2, _, Z, g2.ok, h2, fun hi ρ3 W3 H3 h3 g3 => ?_, hZ.go g2⟩
    split at h3
    · rename_i ds e1
      obtain ⟨x', e2, r⟩ := g3.ok.val i _ e1
      rw [ex] at e2; cases e2
      obtain ⟨q, vs, rfl, hq, da⟩ := r
      have g := g2.trans g3
      exact ⟨q, vs, rfl, SqL.of hq, fun q2 hq2 => hR _ ρ3 _ _ _ h3 (g.trans (.new g.ok hq2)) (res_own g.ok hq2 (g.stp.up q2 hq2) (da.cut lo hi))⟩
    · exact h3.elim
def mSlV (i : Nat) (wl wh : EM (Option Int)) : EM S := fun ρ => (bindE (wl ρ) fun lo ρ2 => bindE (wh ρ2) fun hi ρ3 => match ρ3[i]? with
  | some (some (.own ds)) => ok (.own (cutD ds lo hi)) ρ3
  | _ => M.bad).req (∃ s0, ρ[i]? = some (some s0))
@[simp ↓] theorem m_slV {i : Nat} {wl wh : EM (Option Int)} : mSlV i wl wh ρ = (bindE (wl ρ) fun lo ρ2 => bindE (wh ρ2) fun hi ρ3 => match ρ3[i]? with
  | some (some (.own ds)) => ok (.own (cutD ds lo hi)) ρ3
  | _ => M.bad).req (∃ s0, ρ[i]? = some (some s0)) := rfl
theorem tw_slV {i : Nat} {wl wh : EM (Option Int)} : tw (mSlV i wl wh) = wSlV i (tw wl) (tw wh) := by
  funext Z ρ R
  simp only [tw, mSlV, twE, wp_req, wSlV]
  congr 2
  funext r μ1
  congr 1
  funext lo
  congr 1
  funext r μ1
  congr 1
  funext hi
  try dsimp only
  generalize r.snd[i]? = o
  rcases o with _ | _ | s <;> first | rfl | (cases s <;> rfl)
theorem qe_slV (i : Nat) {x : Str} {lo hi : Option Expr} {wl wh : EM (Option Int)} (hl : QO X G T lo wl) (hu : QO X G T hi wh) (hN : X.N[i]? = some x := by rfl) (hv : Vis X.env.scope x := by first | exact Or.inl rfl | exact Or.inr (Or.inl rfl) | exact Or.inr (Or.inr rfl)) (hd : (x == ("__debug__" : Str)) = false := by decide)
    (hcd : (x == ("__classdict__" : Str)) = false := by decide) : QE X G T (.Subscript (.Name x p) (.Slice lo hi none p2) pos) (mSlV i wl wh) := by
  unfold QE; rw [tw_slV]; exact de_slV i hl hu hN hv hd hcd
end
end DL


set_option maxHeartbeats 4000000
namespace Law
open PySem PySem.Spec
open L2 hiding nth
open DL

local macro_rules | `(tactic| walk_at "side") => `(tactic| first | assumption | omega | exact trivial | (refine And.intro ?_ ?_ <;> walk_at "side") | (intro _ <;> walk_at "side") | (refine mulOk_l ⟨?_, ?_⟩ <;> omega) | (refine mulOk_r ⟨?_, ?_⟩ <;> omega) | (refine divOk_n ?_ ?_ <;> omega) | (simp; done) | (simp at *; omega))

def xtab : XTab := [((Str.ofString "InvalidBase"), (Str.ofString "InvalidBase"), true), ((Str.ofString "InvalidBase"), (Str.ofString "InvalidFigures"), false), ((Str.ofString "InvalidBase"), (Str.ofString "InvalidLists"), false), ((Str.ofString "InvalidFigures"), (Str.ofString "InvalidBase"), false), ((Str.ofString "InvalidFigures"), (Str.ofString "InvalidFigures"), true), ((Str.ofString "InvalidFigures"), (Str.ofString "InvalidLists"), false), ((Str.ofString "InvalidList"), (Str.ofString "InvalidBase"), false), ((Str.ofString "InvalidList"), (Str.ofString "InvalidFigures"), false), ((Str.ofString "InvalidList"), (Str.ofString "InvalidLists"), false), ((Str.ofString "InvalidLists"), (Str.ofString "InvalidBase"), false), ((Str.ofString "InvalidLists"), (Str.ofString "InvalidFigures"), false), ((Str.ofString "InvalidLists"), (Str.ofString "InvalidLists"), true), ((Str.ofString "InvalidNumber"), (Str.ofString "InvalidBase"), false), ((Str.ofString "InvalidNumber"), (Str.ofString "InvalidFigures"), false), ((Str.ofString "InvalidNumber"), (Str.ofString "InvalidLists"), false)]
def xown : List Str := [(Str.ofString "InvalidBase"), (Str.ofString "InvalidFigures"), (Str.ofString "InvalidList"), (Str.ofString "InvalidLists"), (Str.ofString "InvalidNumber")]
def xfld : List (Str × Str) := []
def xist : XTab := []
/-- is_integer(value); slots: 0 value -/
def b_is_integer : SM := (mRet (mAndV (mCallB fIsi (mCons (mVar 0) (mCons (mC (.v (.ty "int"))) mNil))) (mNotV (mCallB fIsi (mCons (mVar 0) (mCons (mC (.v (.ty "bool"))) mNil))))))
def f_is_integer : FM := defM b_is_integer [(Str.ofString "value")]
@[simp] theorem is_integer_eq {d : D} (h : d.known = true) : f_is_integer [d] = val (.d (.bl d.isI)) := by
  (conv => { lhs; simp -implicitDefEqProofs [l_neSelf, l_eqSelf, key_int, key_str, keyD, defM, initM, tail_mapS, take_mapS, drop_mapS, sl0, slI, lcAll_map, lcAll_rng, forL_map, forL_rng, -List.map_take, -List.map_drop, -List.map_tail, -List.map_reverse, f_is_integer, b_is_integer, h] })
  cases d <;> simp [D.isI, D.isBl]
@[simp] theorem is_integer_int {i : Int} : f_is_integer [.int i] = val (.d (.bl true)) := is_integer_eq rfl

def inB (a b : Int) : D → Bool
  | .int i => decide (a ≤ i ∧ i ≤ b)
  | _ => false

/-- is_within(value, least, most); slots: 0 value, 1 least, 2 most -/
def b_is_within : SM := (mRet (mAndV (mCall 1 f_is_integer (mCons (mVar 0) mNil)) (mChain fLe fLe (mVar 1) (mVar 0) (mVar 2))))
def f_is_within : FM := defM b_is_within [(Str.ofString "value"), (Str.ofString "least"), (Str.ofString "most")]
--@use inb
@[simp] theorem is_within_int {i a b : Int} : f_is_within [.int i, .int a, .int b] = val (.d (.bl (decide (a ≤ i ∧ i ≤ b)))) := by
  (conv => { lhs; simp -implicitDefEqProofs [l_neSelf, l_eqSelf, key_int, key_str, keyD, defM, initM, tail_mapS, take_mapS, drop_mapS, sl0, slI, lcAll_map, lcAll_rng, forL_map, forL_rng, -List.map_take, -List.map_drop, -List.map_tail, -List.map_reverse, f_is_within, b_is_within] })
  by_cases h : a ≤ i <;> simp [h]
theorem is_within_gen {d : D} {a b : Int} (h : d.known = true) : f_is_within [d, .int a, .int b] = val (.d (.bl (inB a b d))) := by
  cases d with
  | int i => exact is_within_int
  | _ => (conv => { lhs; simp -implicitDefEqProofs [l_neSelf, l_eqSelf, key_int, key_str, keyD, defM, initM, tail_mapS, take_mapS, drop_mapS, sl0, slI, lcAll_map, lcAll_rng, forL_map, forL_rng, -List.map_take, -List.map_drop, -List.map_tail, -List.map_reverse, f_is_within, b_is_within, is_integer_eq h, D.isI] }); rfl

/-- check_integer(value); slots: 0 value -/
def b_check_integer : SM := (mIf (mNot (mB (mCall 1 f_is_integer (mCons (mVar 0) mNil)))) (mRaise1 (Str.ofString "InvalidNumber") (Str.ofString "given") (mVar 0)) mNext)
def f_check_integer : FM := defM b_check_integer [(Str.ofString "value")]
@[simp] theorem check_integer_int {i : Int} : f_check_integer [.int i] = val (.d .non) := by
  (conv => { lhs; simp -implicitDefEqProofs [l_neSelf, l_eqSelf, key_int, key_str, keyD, defM, initM, tail_mapS, take_mapS, drop_mapS, sl0, slI, lcAll_map, lcAll_rng, forL_map, forL_rng, -List.map_take, -List.map_drop, -List.map_tail, -List.map_reverse, f_check_integer, b_check_integer] })
theorem check_integer_bad {d : D} (h : d.known = true) (n : d.isI = false) : f_check_integer [d] = exn ⟨"InvalidNumber", [("given", d)]⟩ := by
  (conv => { lhs; simp -implicitDefEqProofs [l_neSelf, l_eqSelf, key_int, key_str, keyD, defM, initM, tail_mapS, take_mapS, drop_mapS, sl0, slI, lcAll_map, lcAll_rng, forL_map, forL_rng, -List.map_take, -List.map_drop, -List.map_tail, -List.map_reverse, f_check_integer, b_check_integer, is_integer_eq h, n] })

/-- strictly ascending -/
abbrev Asc (ns : List Int) : Prop := ns.Pairwise (· < ·)
theorem asc_iff {ns : List Int} : Asc ns ↔ ∀ k, k + 1 < ns.length → nth ns k < nth ns (k + 1) := by
  induction ns with
  | nil => simp [Asc]
  | cons a l ih =>
    cases l with
    | nil => simp [Asc]
    | cons b m =>
      unfold Asc at ih ⊢
      rw [List.pairwise_cons, ih]
      constructor
      · rintro ⟨h1, h2⟩ k hk
        cases k with
        | zero => exact h1 b (List.mem_cons_self ..)
        | succ k => simpa using h2 k (by simpa using hk)
      · intro h
        refine ⟨fun x hx => ?_, fun k hk => by simpa using h (k + 1) (by simpa using hk)⟩
        have hb : a < b := by simpa using h 0 (by simp)
        rcases List.mem_cons.mp hx with rfl | hx
        · exact hb
        · have := (List.pairwise_cons.mp (ih.mpr fun k hk => by simpa using h (k + 1) (by simpa using hk))).1 x hx
          omega
/-- a list of the program -/
abbrev isListI (ns : List Int) : Bool := decide (ns ≠ [] ∧ ns.length ≤ 40 ∧ Asc ns)

--@use asc
/-- how many rows -/
def sizeL (ls : List (List Int)) : Nat := (ls.map List.length).prod
/-- a lot -/
def LotOk (ls : List (List Int)) : Prop := (1 ≤ ls.length ∧ ls.length ≤ 6) ∧ ∀ ns ∈ ls, ns ≠ [] ∧ ns.length ≤ 40 ∧ Asc ns
/-- a small lot -/
def LotSm (ls : List (List Int)) : Prop := LotOk ls ∧ sizeL ls ≤ 700 ∧ ls.length ≤ 4 ∧ ∀ ns ∈ ls, ∀ x ∈ ns, -(10 ^ 30) < x ∧ x < 10 ^ 30
/-- one step of a ladder -/
def stepL (q : Nat) (h : Int) (l : List Int) : List Int := (List.range q).flatMap fun (t : Nat) => l.map fun x => (t : Int) * h + x
/-- the lists of a ladder, as they are built -/
def bstep (a : List (List Int) × Int) (p : Nat × Nat) : List (List Int) × Int := (a.1.set p.2 (stepL p.1 a.2 (nth a.1 p.2)), a.2 * p.1)
def builtL (st : List (Nat × Nat)) (m : Nat) : List (List Int) × Int := st.foldl bstep (List.replicate m [0], 1)
/-- steps: at least 2, lists below m, neighbours unlike -/
def AltS : List (Nat × Nat) → Prop
  | p :: q :: r => p.2 ≠ q.2 ∧ AltS (q :: r)
  | _ => True
def StepsOk (m : Nat) (st : List (Nat × Nat)) : Prop := (∀ p ∈ st, 2 ≤ p.1 ∧ p.2 < m) ∧ AltS st
theorem stepL_len {q : Nat} {h : Int} {l : List Int} : (stepL q h l).length = q * l.length := by
  unfold stepL
  rw [List.length_flatMap]
  simp [List.map_const']
theorem mem_stepL {q : Nat} {h : Int} {l : List Int} {x : Int} : x ∈ stepL q h l ↔ ∃ t : Nat, t < q ∧ ∃ y ∈ l, (t : Int) * h + y = x := by
  unfold stepL; simp [List.mem_flatMap]
theorem stepL_pre (q : Nat) (h : Int) (l : List Int) : ∃ r, stepL (q + 1) h l = l ++ r := by
  unfold stepL
  rw [List.range_succ_eq_map, List.flatMap_cons]
  refine ⟨_, congrArg (· ++ _) ?_⟩
  simp
theorem altS_snoc {p : Nat × Nat} : ∀ {st : List (Nat × Nat)}, AltS st → (∀ q, st.getLast? = some q → q.2 ≠ p.2) → AltS (st ++ [p])
  | [], _, _ => trivial
  | [q], _, h => ⟨h q rfl, trivial⟩
  | q :: r :: st, h, k => ⟨h.1, altS_snoc (st := r :: st) h.2 fun z hz => k z (by rw [List.getLast?_cons_cons]; exact hz)⟩
/-- ascending below h -/
def Below (h : Int) (l : List Int) : Prop := Asc l ∧ ∀ x ∈ l, 0 ≤ x ∧ x < h
theorem stepL_succ {q : Nat} {h : Int} {l : List Int} : stepL (q + 1) h l = stepL q h l ++ l.map fun x => (q : Int) * h + x := by
  unfold stepL; rw [List.range_succ, List.flatMap_append]; simp
theorem stepL_below {h : Int} (hh : 0 ≤ h) {l : List Int} (b : Below h l) : ∀ q : Nat, Below (h * q) (stepL q h l) := fun q => by
  induction q with
  | zero => exact ⟨by simp [stepL, Asc], by simp [stepL]⟩
  | succ q ih =>
    rw [stepL_succ]
    have e : h * ((q + 1 : Nat) : Int) = q * h + h := by push_cast; rw [Int.mul_add, Int.mul_one, Int.mul_comm]
    have e2 : h * (q : Int) = q * h := Int.mul_comm ..
    refine ⟨?_, fun x hx => ?_⟩
    · refine List.pairwise_append.mpr ⟨ih.1, List.pairwise_map.mpr (b.1.imp fun h => by omega), fun x hx y hy => ?_⟩
      obtain ⟨z, hz, rfl⟩ := List.mem_map.mp hy
      have := ih.2 x hx
      have := b.2 z hz
      omega
    · have hq : 0 ≤ (q : Int) * h := Int.mul_nonneg (by omega) hh
      rcases List.mem_append.mp hx with hx | hx
      · have := ih.2 x hx; omega
      · obtain ⟨z, hz, rfl⟩ := List.mem_map.mp hx
        have := b.2 z hz
        omega
theorem Below.mono {h h' : Int} {l : List Int} (b : Below h l) (e : h ≤ h') : Below h' l := ⟨b.1, fun x hx => ⟨(b.2 x hx).1, by have := (b.2 x hx).2; omega⟩⟩
theorem Asc.sorted {l : List Int} (h : Asc l) : l.Pairwise (· ≤ ·) := h.imp fun h => Int.le_of_lt h
/-- what holds all the while -/
structure BOk (m : Nat) (a : List (List Int) × Int) : Prop where
  len : a.1.length = m
  pos : 1 ≤ a.2
  bel : ∀ l ∈ a.1, Below a.2 l
  ne : ∀ l ∈ a.1, ∃ r, l = 0 :: r
  size : (sizeL a.1 : Int) = a.2
theorem sizeL_set {ls : List (List Int)} {i : Nat} {l : List Int} {q : Nat} (hi : i < ls.length) (h : l.length = q * (nth ls i).length) : sizeL (ls.set i l) = q * sizeL ls := by
  unfold sizeL
  induction ls generalizing i with
  | nil => simp at hi
  | cons a ls ih =>
    cases i with
    | zero => simp only [List.set_cons_zero, List.map_cons, List.prod_cons]; rw [h]; show q * a.length * _ = _; rw [Nat.mul_assoc]
    | succ i =>
      simp only [List.set_cons_succ, List.map_cons, List.prod_cons]
      rw [ih (by simpa using hi) h, ← Nat.mul_assoc, ← Nat.mul_assoc, Nat.mul_comm a.length q]
theorem nth_in {α : Type} [Inhabited α] {l : List α} {i : Nat} (h : i < l.length) : nth l i ∈ l := by
  unfold nth; rw [List.getD_eq_getElem?_getD, List.getElem?_eq_getElem h]; exact List.getElem_mem h
theorem mem_set_or {α : Type} {l : List α} {i : Nat} {a x : α} (h : x ∈ l.set i a) : x = a ∨ x ∈ l := (List.mem_or_eq_of_mem_set h).symm
theorem BOk.step {m : Nat} {a : List (List Int) × Int} (b : BOk m a) {p : Nat × Nat} (h1 : 1 ≤ p.1) (h2 : p.2 < m) : BOk m (bstep a p) := by
  have hi : p.2 < a.1.length := by rw [b.len]; exact h2
  have hq : a.2 ≤ a.2 * (p.1 : Int) := by have := Int.mul_le_mul_of_nonneg_left (a := 1) (b := (p.1 : Int)) (c := a.2) (by omega) (by have := b.pos; omega); omega
  have hn := nth_in hi
  refine ⟨by simp [bstep, b.len], by have := b.pos; show 1 ≤ a.2 * (p.1 : Int); omega, fun l hl => ?_, fun l hl => ?_, ?_⟩
  · rcases mem_set_or hl with rfl | hl
    · exact stepL_below (by have := b.pos; omega) (b.bel _ hn) _
    · exact (b.bel l hl).mono hq
  · rcases mem_set_or hl with rfl | hl
    · obtain ⟨r, hr⟩ := b.ne _ hn
      obtain ⟨k, hk⟩ : ∃ k, p.1 = k + 1 := ⟨p.1 - 1, by omega⟩
      obtain ⟨r', e⟩ := stepL_pre k a.2 (nth a.1 p.2)
      exact ⟨r ++ r', by rw [hk, e, hr]; rfl⟩
    · exact b.ne l hl
  · show (sizeL (a.1.set p.2 (stepL p.1 a.2 (nth a.1 p.2))) : Int) = a.2 * (p.1 : Int)
    rw [sizeL_set hi stepL_len]
    push_cast
    rw [b.size, Int.mul_comm]
theorem prod_replicate_one (m : Nat) : ((List.replicate m ([0] : List Int)).map List.length).prod = 1 := by
  induction m with
  | zero => rfl
  | succ m ih => rw [List.replicate_succ, List.map_cons, List.prod_cons, ih]; rfl
theorem BOk.start {m : Nat} : BOk m (List.replicate m [0], 1) := by
  refine ⟨by simp, by simp, fun l hl => ?_, fun l hl => ?_, ?_⟩
  · rw [(List.mem_replicate.mp hl).2]; exact ⟨List.pairwise_singleton _ _, by simp⟩
  · rw [(List.mem_replicate.mp hl).2]; exact ⟨[], rfl⟩
  · show ((_ : Nat) : Int) = 1
    unfold sizeL; rw [prod_replicate_one]; rfl
theorem BOk.all {m : Nat} : ∀ {st : List (Nat × Nat)} {a : List (List Int) × Int}, BOk m a → (∀ p ∈ st, 2 ≤ p.1 ∧ p.2 < m) → BOk m (st.foldl bstep a)
  | [], _, b, _ => b
  | p :: st, a, b, h => BOk.all (st := st) (a := bstep a p) (b.step (by have := (h p (List.mem_cons_self ..)).1; omega) (h p (List.mem_cons_self ..)).2) fun q hq => h q (List.mem_cons_of_mem _ hq)
theorem built_ok {m : Nat} {st : List (Nat × Nat)} (h : ∀ p ∈ st, 2 ≤ p.1 ∧ p.2 < m) : BOk m (builtL st m) := BOk.start.all h
/-- the product of the steps -/
def prodS (st : List (Nat × Nat)) : Nat := (st.map Prod.fst).prod
theorem foldl_snd : ∀ {st : List (Nat × Nat)} {a : List (List Int) × Int}, (st.foldl bstep a).2 = a.2 * (prodS st : Int)
  | [], a => by simp [prodS]
  | p :: st, a => by
    rw [List.foldl_cons, foldl_snd]
    show a.2 * (p.1 : Int) * _ = _
    unfold prodS
    rw [List.map_cons, List.prod_cons]
    push_cast
    rw [Int.mul_assoc]
theorem built_snd {m : Nat} {st : List (Nat × Nat)} : (builtL st m).2 = (prodS st : Int) := by
  unfold builtL; rw [foldl_snd]; simp
theorem built_size {m : Nat} {st : List (Nat × Nat)} (h : ∀ p ∈ st, 2 ≤ p.1 ∧ p.2 < m) : sizeL (builtL st m).1 = prodS st := by
  have := (built_ok h).size
  rw [built_snd] at this
  omega
theorem mem_size : ∀ {ls : List (List Int)}, (∀ l ∈ ls, l ≠ []) → ∀ l ∈ ls, l.length ≤ sizeL ls ∧ 1 ≤ sizeL ls
  | a :: ls, h, l, hl => by
    have ih := mem_size (ls := ls) fun l hl => h l (List.mem_cons_of_mem _ hl)
    have ha : 1 ≤ a.length := List.length_pos_iff.mpr (h a (List.mem_cons_self ..))
    have e : sizeL (a :: ls) = a.length * sizeL ls := by unfold sizeL; rw [List.map_cons, List.prod_cons]
    have h1 : 1 ≤ sizeL ls := by
      cases ls with
      | nil => exact Nat.le_refl 1
      | cons b ls => exact (ih b (List.mem_cons_self ..)).2
    rw [e]
    refine ⟨?_, Nat.mul_le_mul ha h1⟩
    rcases List.mem_cons.mp hl with rfl | hl
    · exact Nat.le_mul_of_pos_right _ h1
    · exact Nat.le_trans (ih l hl).1 (Nat.le_mul_of_pos_left _ ha)
theorem BOk.nonempty {m : Nat} {a : List (List Int) × Int} (b : BOk m a) : ∀ l ∈ a.1, l ≠ [] := fun l hl => by
  obtain ⟨r, e⟩ := b.ne l hl; rw [e]; simp
theorem built_len_le {m : Nat} {st : List (Nat × Nat)} (h : ∀ p ∈ st, 2 ≤ p.1 ∧ p.2 < m) : ∀ l ∈ (builtL st m).1, l.length ≤ prodS st := fun l hl => by
  have := (mem_size (built_ok h).nonempty l hl).1
  rw [built_size h] at this; exact this
theorem prodS_append {a b : List (Nat × Nat)} : prodS (a ++ b) = prodS a * prodS b := by unfold prodS; rw [List.map_append, List.prod_append]
theorem prodS_pos {a : List (Nat × Nat)} (h : ∀ p ∈ a, 1 ≤ p.1) : 1 ≤ prodS a := by
  unfold prodS
  induction a with
  | nil => exact Nat.le_refl 1
  | cons p a ih =>
    rw [List.map_cons, List.prod_cons]
    exact Nat.mul_le_mul (h p (List.mem_cons_self ..)) (ih fun q hq => h q (List.mem_cons_of_mem _ hq))
theorem prodS_pre {pre post : List (Nat × Nat)} {p : Nat × Nat} (h : ∀ q ∈ post, 1 ≤ q.1) : prodS pre * p.1 ≤ prodS (pre ++ p :: post) := by
  rw [prodS_append]
  have : prodS (p :: post) = p.1 * prodS post := by unfold prodS; rw [List.map_cons, List.prod_cons]
  rw [this]
  exact Nat.mul_le_mul_left _ (Nat.le_mul_of_pos_right _ (prodS_pos h))

--@use lot
theorem prodS_le {q : Nat} : ∀ {st : List (Nat × Nat)}, (∀ p ∈ st, p.1 ≤ q) → prodS st ≤ q ^ st.length
  | [], _ => by simp [prodS]
  | p :: st, h => by
    have ih := prodS_le (q := q) (st := st) fun r hr => h r (List.mem_cons_of_mem _ hr)
    have : prodS (p :: st) = p.1 * prodS st := by unfold prodS; rw [List.map_cons, List.prod_cons]
    rw [this, List.length_cons, Nat.pow_succ, Nat.mul_comm]
    exact Nat.mul_le_mul ih (h p (List.mem_cons_self ..))
/-- the steps of one list -/
def stepsAt (i : Nat) (st : List (Nat × Nat)) : List (Nat × Nat) := st.filter fun p => decide (p.2 = i)
theorem stepsAt_cons {i : Nat} {p : Nat × Nat} {st : List (Nat × Nat)} : stepsAt i (p :: st) = if p.2 = i then p :: stepsAt i st else stepsAt i st := by
  unfold stepsAt; rw [List.filter_cons]; split <;> simp_all
theorem stepsAt_half {i : Nat} : ∀ {st : List (Nat × Nat)}, AltS st → 2 * (stepsAt i st).length ≤ st.length + 1
  | [], _ => by simp [stepsAt]
  | [p], _ => by rw [stepsAt_cons]; split <;> simp [stepsAt]
  | p :: q :: st, h => by
    have h2 : AltS st := by
      have := h.2
      cases st with
      | nil => trivial
      | cons r st => exact this.2
    have ih := stepsAt_half (i := i) (st := st) h2
    have hpq := h.1
    rw [stepsAt_cons, stepsAt_cons]
    split <;> split <;> simp only [List.length_cons] <;> first | omega | (exfalso; omega)
theorem nth_set {α : Type} [Inhabited α] {l : List α} {i j : Nat} {a : α} (hi : i < l.length) : nth (l.set i a) j = if i = j then a else nth l j := by
  unfold nth
  rw [List.getD_eq_getElem?_getD, List.getElem?_set, List.getD_eq_getElem?_getD]
  by_cases e : i = j
  · rw [if_pos e, if_pos e]; subst e; rw [if_pos hi]; rfl
  · rw [if_neg e, if_neg e]
theorem foldl_len {m i : Nat} : ∀ {st : List (Nat × Nat)} {a : List (List Int) × Int}, a.1.length = m → (∀ p ∈ st, p.2 < m) → (nth (st.foldl bstep a).1 i).length = prodS (stepsAt i st) * (nth a.1 i).length
  | [], a, _, _ => by simp [stepsAt, prodS]
  | p :: st, a, h, hs => by
    have hp := hs p (List.mem_cons_self ..)
    rw [List.foldl_cons, foldl_len (m := m) (by simp [bstep, h]) fun q hq => hs q (List.mem_cons_of_mem _ hq), stepsAt_cons]
    show _ * (nth (a.1.set p.2 (stepL p.1 a.2 (nth a.1 p.2))) i).length = _
    rw [nth_set (by rw [h]; exact hp)]
    by_cases e : p.2 = i
    · rw [if_pos e, if_pos e, stepL_len, e]
      have : prodS (p :: stepsAt i st) = p.1 * prodS (stepsAt i st) := by unfold prodS; rw [List.map_cons, List.prod_cons]
      rw [this]; simp only [Nat.mul_assoc, Nat.mul_left_comm, Nat.mul_comm]
    · rw [if_neg e, if_neg e]
theorem nth_replicate {α : Type} [Inhabited α] {m i : Nat} {a : α} (h : i < m) : nth (List.replicate m a) i = a := by
  unfold nth; rw [List.getD_eq_getElem?_getD, List.getElem?_replicate, if_pos h]; rfl
theorem built_len {m i : Nat} {st : List (Nat × Nat)} (hi : i < m) (h : ∀ p ∈ st, p.2 < m) : (nth (builtL st m).1 i).length = prodS (stepsAt i st) := by
  unfold builtL
  rw [foldl_len (m := m) (by simp) h, nth_replicate hi]; simp
theorem mem_nth {α : Type} [Inhabited α] {l : List α} {a : α} (h : a ∈ l) : ∃ i, i < l.length ∧ nth l i = a := by
  obtain ⟨i, hi, e⟩ := List.getElem_of_mem h
  exact ⟨i, hi, by unfold nth; rw [List.getD_eq_getElem?_getD, List.getElem?_eq_getElem hi]; exact e⟩
/-- each list of a ladder of few steps -/
theorem built_each {m q : Nat} {st : List (Nat × Nat)} (h : StepsOk m st) (hq : ∀ p ∈ st, p.1 ≤ q) (hq1 : 1 ≤ q) {l : List Int} (hl : l ∈ (builtL st m).1) : l.length ≤ q ^ ((st.length + 1) / 2) := by
  obtain ⟨i, hi, rfl⟩ := mem_nth hl
  rw [(built_ok h.1).len] at hi
  rw [built_len hi fun p hp => (h.1 p hp).2]
  refine Nat.le_trans (prodS_le fun p hp => hq p (List.mem_filter.mp hp).1) (Nat.pow_le_pow_right hq1 ?_)
  have := stepsAt_half (i := i) h.2
  omega
/-! ### moved -/
theorem Paired.mem {α β : Type} {R : α → β → Prop} : ∀ {xs : List α} {ys : List β}, Paired R xs ys → ∀ y ∈ ys, ∃ x ∈ xs, R x y
  | _, _, .nil, y, h => absurd h (by simp)
  | _, _, .cons (a := a) h1 h2, y, h => by
    rcases List.mem_cons.mp h with rfl | h
    · exact ⟨a, List.mem_cons_self .., h1⟩
    · obtain ⟨x, hx, hr⟩ := Paired.mem h2 y h
      exact ⟨x, List.mem_cons_of_mem _ hx, hr⟩
theorem paired_size {R : List Int → List Int → Prop} (k : ∀ a b, R a b → b.length = a.length) : ∀ {xs ys : List (List Int)}, Paired R xs ys → sizeL ys = sizeL xs
  | _, _, .nil => rfl
  | _, _, .cons h1 h2 => by
    have ih := paired_size k h2
    unfold sizeL at *
    rw [List.map_cons, List.map_cons, List.prod_cons, List.prod_cons, ih, k _ _ h1]
theorem asc_add {l : List Int} {d : Int} (h : Asc l) : Asc (l.map fun x => x + d) := List.pairwise_map.mpr (h.imp fun h => by omega)
theorem sizeL_set_le : ∀ {ls : List (List Int)} {i : Nat} {l : List Int}, i < ls.length → l.length ≤ (nth ls i).length → sizeL (ls.set i l) ≤ sizeL ls
  | [], _, _, hi, _ => by simp at hi
  | a :: ls, 0, l, _, h => by
    unfold sizeL; simp only [List.set_cons_zero, List.map_cons, List.prod_cons]; exact Nat.mul_le_mul_right _ h
  | a :: ls, i + 1, l, hi, h => by
    have := sizeL_set_le (ls := ls) (i := i) (l := l) (by simpa using hi) h
    unfold sizeL at *; simp only [List.set_cons_succ, List.map_cons, List.prod_cons]; exact Nat.mul_le_mul_left _ this
theorem take_set {α : Type} : ∀ {l : List α} {i : Nat} {a : α}, i < l.length → l.take i ++ a :: l.drop (i + 1) = l.set i a
  | [], _, _, h => by simp at h
  | b :: l, 0, a, _ => rfl
  | b :: l, i + 1, a, h => by
    rw [List.take_succ_cons, List.drop_succ_cons, List.cons_append, take_set (by simpa using h)]; rfl
theorem sizeL_le {q : Nat} : ∀ {ls : List (List Int)}, (∀ l ∈ ls, l.length ≤ q) → sizeL ls ≤ q ^ ls.length
  | [], _ => by simp [sizeL]
  | a :: ls, h => by
    have ih := sizeL_le (q := q) (ls := ls) fun r hr => h r (List.mem_cons_of_mem _ hr)
    have : sizeL (a :: ls) = a.length * sizeL ls := by unfold sizeL; rw [List.map_cons, List.prod_cons]
    rw [this, List.length_cons, Nat.pow_succ, Nat.mul_comm]
    exact Nat.mul_le_mul ih (h a (List.mem_cons_self ..))

--@use lot2
/-- an instance of Lot -/
abbrev dLot (ls : List (List Int)) : D := .ins (Str.ofString "Lot") [(Str.ofString "kept", tL ls)]
theorem LotOk.isList {ls : List (List Int)} (h : LotOk ls) {ns : List Int} (hn : ns ∈ ls) : isListI ns = true := decide_eq_true ⟨(h.2 ns hn).1, (h.2 ns hn).2.1, (h.2 ns hn).2.2⟩
theorem list_ok {ns : List Int} (h : isListI ns = true) : ns ≠ [] ∧ ns.length ≤ 40 ∧ Asc ns := of_decide_eq_true h
theorem LotOk.app {ls : List (List Int)} (h : LotOk ls) {ns : List Int} (hn : isListI ns = true) (hl : ls.length < 6) : LotOk (ls ++ [ns]) :=
  ⟨by rw [List.length_append, List.length_singleton]; omega, fun l hl => by
    rcases List.mem_append.mp hl with hl | hl
    · exact h.2 l hl
    · rw [List.mem_singleton.mp hl]; exact list_ok hn⟩
theorem LotOk.set {ls : List (List Int)} (h : LotOk ls) {ns : List Int} (hn : isListI ns = true) (i : Nat) : LotOk (ls.set i ns) :=
  ⟨by rw [List.length_set]; exact h.1, fun l hl => by
    rcases mem_set_or hl with rfl | hl
    · exact list_ok hn
    · exact h.2 l hl⟩
theorem LotOk.del {ls : List (List Int)} (h : LotOk ls) {i : Nat} (hi : i < ls.length) (h2 : 2 ≤ ls.length) : LotOk (ls.take i ++ ls.drop (i + 1)) :=
  ⟨by rw [List.length_append, List.length_take, List.length_drop]; have := h.1; omega, fun l hl => by
    rcases List.mem_append.mp hl with hl | hl
    · exact h.2 l (List.mem_of_mem_take hl)
    · exact h.2 l (List.mem_of_mem_drop hl)⟩

--@use lotd
/-- a dict from ints to ints: put, get -/
def putI (m : List (Int × Int)) (k v : Int) : List (Int × Int) := if (m.any fun p => decide (p.1 = k)) = true then m.map (fun p => if p.1 = k then (p.1, v) else p) else m ++ [(k, v)]
def getI (m : List (Int × Int)) (k : Int) : Option Int := (m.find? fun p => decide (p.1 = k)).map (·.2)
theorem any_dI {m : List (Int × Int)} {k : Int} : ((dI m).any fun kv => decide (kv.1 = .inl k)) = m.any fun p => decide (p.1 = k) := by
  unfold dI; rw [List.any_map]; congr 1; funext p; simp
theorem putD_I {m : List (Int × Int)} {k v : Int} : putD (dI m) (.inl k) (.int v) = dI (putI m k v) := by
  unfold putD putI
  rw [any_dI]
  split
  · unfold dI; rw [List.map_map, List.map_map]; apply List.map_congr_left; intro p _
    by_cases h : p.1 = k <;> simp [h]
  · simp [dI]
theorem valD_I {m : List (Int × Int)} {k : Int} : valD (dI m) (.inl k) = (getI m k).map .int := by
  unfold valD getI dI
  rw [List.find?_map, Option.map_map, Option.map_map]
  congr 1
  congr 1
  funext p; simp
theorem getI_nil {k : Int} : getI [] k = none := rfl
theorem getI_cons {p : Int × Int} {m : List (Int × Int)} {k : Int} : getI (p :: m) k = if p.1 = k then some p.2 else getI m k := by
  unfold getI; rw [List.find?_cons]
  by_cases h : p.1 = k <;> simp [h]
theorem getI_mem {x : Int} : ∀ {m : List (Int × Int)}, (getI m x).isSome = true ↔ x ∈ m.map (·.1)
  | [] => by simp [getI_nil]
  | p :: m => by
    rw [getI_cons, List.map_cons, List.mem_cons]
    by_cases e : p.1 = x
    · rw [if_pos e]; simp [e]
    · rw [if_neg e, getI_mem]
      exact ⟨.inr, fun h => h.elim (fun q => absurd q.symm e) id⟩
theorem any_keys {m : List (Int × Int)} {k : Int} : (m.any fun p => decide (p.1 = k)) = true ↔ k ∈ m.map (·.1) := by
  rw [List.any_eq_true, List.mem_map]
  exact ⟨fun ⟨p, h1, h2⟩ => ⟨p, h1, of_decide_eq_true h2⟩, fun ⟨p, h1, h2⟩ => ⟨p, h1, decide_eq_true h2⟩⟩
theorem getI_rep {k v x : Int} : ∀ {m : List (Int × Int)}, k ∈ m.map (·.1) → getI (m.map fun p => if p.1 = k then (p.1, v) else p) x = if x = k then some v else getI m x
  | [], h => by simp at h
  | p :: m, h => by
    rw [List.map_cons, getI_cons, getI_cons]
    by_cases e : p.1 = k
    · rw [if_pos e]
      by_cases f : x = k
      · rw [if_pos f, if_pos (by rw [f]; exact e)]
      · rw [if_neg f, if_neg (fun z => f (by rw [← e]; exact z.symm)), if_neg (fun z => f (by rw [← e]; exact z.symm))]
        by_cases g : k ∈ m.map (·.1)
        · rw [getI_rep g, if_neg f]
        · congr 1
          conv => rhs; rw [← List.map_id m]
          apply List.map_congr_left
          intro q hq
          rw [if_neg (fun z => g (List.mem_map.mpr ⟨q, hq, z⟩))]; rfl
    · rw [if_neg e]
      have hk : k ∈ m.map (·.1) := by
        rw [List.map_cons, List.mem_cons] at h
        exact h.elim (fun z => absurd z.symm e) id
      rw [getI_rep hk]
      by_cases f : p.1 = x
      · rw [if_pos f, if_neg (fun z => e (f.trans z)), if_pos f]
      · rw [if_neg f, if_neg f]
theorem getI_app {m : List (Int × Int)} {k v x : Int} (h : k ∉ m.map (·.1)) : getI (m ++ [(k, v)]) x = if x = k then some v else getI m x := by
  induction m with
  | nil =>
    rw [List.nil_append, getI_cons, getI_nil]
    by_cases e : k = x
    · rw [if_pos e, if_pos e.symm]
    · rw [if_neg e, if_neg (fun z => e z.symm)]
  | cons p m ih =>
    rw [List.map_cons, List.mem_cons, not_or] at h
    rw [List.cons_append, getI_cons, getI_cons, ih h.2]
    by_cases f : p.1 = x
    · rw [if_pos f, if_neg (fun z => h.1 (z.symm.trans f.symm)), if_pos f]
    · rw [if_neg f, if_neg f]
theorem getI_put {m : List (Int × Int)} {k v x : Int} : getI (putI m k v) x = if x = k then some v else getI m x := by
  unfold putI
  split
  · rename_i h; exact getI_rep (any_keys.mp h)
  · rename_i h; exact getI_app fun z => h (any_keys.mpr z)
theorem putI_len {m : List (Int × Int)} {k v : Int} : (putI m k v).length ≤ m.length + 1 := by unfold putI; split <;> simp
theorem putI_keyL {m : List (Int × Int)} {k v : Int} : (putI m k v).map (·.1) = if k ∈ m.map (·.1) then m.map (·.1) else m.map (·.1) ++ [k] := by
  unfold putI
  by_cases h : k ∈ m.map (·.1)
  · rw [if_pos (any_keys.mpr h), if_pos h, List.map_map]
    apply List.map_congr_left; intro p _
    by_cases e : p.1 = k <;> simp [e]
  · rw [if_neg (fun z => h (any_keys.mp z)), if_neg h, List.map_append]; rfl
theorem putI_keys {m : List (Int × Int)} {k v x : Int} : x ∈ (putI m k v).map (·.1) ↔ x = k ∨ x ∈ m.map (·.1) := by
  rw [putI_keyL]
  split
  · rename_i h; exact ⟨.inr, fun q => q.elim (fun e => by rw [e]; exact h) id⟩
  · rw [List.mem_append, List.mem_singleton]; exact Or.comm
theorem putI_nodup {m : List (Int × Int)} {k v : Int} (h : (m.map (·.1)).Nodup) : ((putI m k v).map (·.1)).Nodup := by
  rw [putI_keyL]
  split
  · exact h
  · rename_i q
    exact List.nodup_append.mpr ⟨h, by simp, fun a ha b hb => by rw [List.mem_singleton.mp hb]; intro z; rw [z] at ha; exact q ha⟩
/-- one list more: the inner loop, the outer one, all -/
def tab1 (w : Int) (b : Int) (ns : List Int) (later : List (Int × Int)) : List (Int × Int) := ns.foldl (fun l n => putI l (b + n) ((getI l (b + n)).getD 0 + w)) later
def tab2 (m : List (Int × Int)) (ns : List Int) : List (Int × Int) := m.foldl (fun l p => tab1 p.2 p.1 ns l) []
def tableL (ls : List (List Int)) : List (Int × Int) := ls.foldl tab2 [(0, 1)]
theorem tab1_nodup {w b : Int} : ∀ {ns : List Int} {l : List (Int × Int)}, (l.map (·.1)).Nodup → ((tab1 w b ns l).map (·.1)).Nodup
  | [], _, h => h
  | _ :: ns, _, h => tab1_nodup (ns := ns) (putI_nodup h)
theorem tab1_len {w b : Int} : ∀ {ns : List Int} {l : List (Int × Int)}, (tab1 w b ns l).length ≤ l.length + ns.length
  | [], _ => Nat.le_refl _
  | n :: ns, l => by
    have := tab1_len (w := w) (b := b) (ns := ns) (l := putI l (b + n) ((getI l (b + n)).getD 0 + w))
    have := putI_len (m := l) (k := b + n) (v := (getI l (b + n)).getD 0 + w)
    show (tab1 w b ns (putI l (b + n) _)).length ≤ _
    rw [List.length_cons]; omega
theorem tab2_go : ∀ {m : List (Int × Int)} {ns : List Int} {l : List (Int × Int)}, (l.map (·.1)).Nodup → ((m.foldl (fun l p => tab1 p.2 p.1 ns l) l).map (·.1)).Nodup ∧ (m.foldl (fun l p => tab1 p.2 p.1 ns l) l).length ≤ l.length + m.length * ns.length
  | [], _, _, h => ⟨h, by simp⟩
  | p :: m, ns, l, h => by
    obtain ⟨a, b⟩ := tab2_go (m := m) (ns := ns) (tab1_nodup (w := p.2) (b := p.1) (ns := ns) h)
    have := tab1_len (w := p.2) (b := p.1) (ns := ns) (l := l)
    refine ⟨a, Nat.le_trans b ?_⟩
    rw [List.length_cons, Nat.add_mul, Nat.one_mul]; omega
theorem table_go : ∀ {ls : List (List Int)} {m : List (Int × Int)}, (m.map (·.1)).Nodup → ((ls.foldl tab2 m).map (·.1)).Nodup ∧ (ls.foldl tab2 m).length ≤ m.length * sizeL ls
  | [], m, h => ⟨h, by simp [sizeL]⟩
  | ns :: ls, m, _ => by
    obtain ⟨a, b⟩ := tab2_go (m := m) (ns := ns) (l := []) (by simp)
    obtain ⟨c, d⟩ := table_go (ls := ls) (m := tab2 m ns) a
    refine ⟨c, Nat.le_trans d ?_⟩
    have e : sizeL (ns :: ls) = ns.length * sizeL ls := by unfold sizeL; rw [List.map_cons, List.prod_cons]
    rw [e, ← Nat.mul_assoc]
    exact Nat.mul_le_mul_right _ (by simpa [tab2] using b)
theorem table_nodup {ls : List (List Int)} : ((tableL ls).map (·.1)).Nodup := (table_go (by simp)).1
theorem table_len {ls : List (List Int)} : (tableL ls).length ≤ sizeL ls := by have := (table_go (ls := ls) (m := [(0, 1)]) (by simp)).2; simpa [tableL] using this
theorem getI_in : ∀ {m : List (Int × Int)} {p : Int × Int}, (m.map (·.1)).Nodup → p ∈ m → getI m p.1 = some p.2
  | [], _, _, h => by simp at h
  | q :: m, p, hn, h => by
    rw [List.map_cons, List.nodup_cons] at hn
    rw [getI_cons]
    rcases List.mem_cons.mp h with rfl | h
    · rw [if_pos rfl]
    · rw [if_neg (fun z => hn.1 (by rw [z]; exact List.mem_map.mpr ⟨p, h, rfl⟩))]
      exact getI_in hn.2 h
theorem sizeL_app {a b : List (List Int)} : sizeL (a ++ b) = sizeL a * sizeL b := by unfold sizeL; rw [List.map_append, List.prod_append]
theorem sizeL_pos {ls : List (List Int)} (h : ∀ l ∈ ls, l ≠ []) : 1 ≤ sizeL ls := by
  cases ls with
  | nil => exact Nat.le_refl 1
  | cons a ls => exact (mem_size h a (List.mem_cons_self ..)).2
theorem size_split {pre post : List (List Int)} {ns : List Int} {ls : List (List Int)} (h : ∀ l ∈ ls, l ≠ []) (e : ls = pre ++ ns :: post) : sizeL pre * ns.length ≤ sizeL ls := by
  have hp := sizeL_pos (ls := post) fun l hl => h l (by rw [e]; simp [hl])
  rw [e, sizeL_app]
  have : sizeL (ns :: post) = ns.length * sizeL post := by unfold sizeL; rw [List.map_cons, List.prod_cons]
  rw [this]
  exact Nat.mul_le_mul_left _ (Nat.le_mul_of_pos_right _ hp)
@[simp] theorem l_dGet {m : List (Int × Int)} {k : Int} : M.lift (dGet (.dic (dI m)) (.int k)) = optM (getI m k) fun v => M.one (.int v) := M.ext fun μ P => by
  rw [wp_lift]
  have e : ∀ R, dGet (.dic (dI m)) (.int k) R = ∃ v, (getI m k).map D.int = some v ∧ R v := fun R => by
    unfold dGet; rw [show (D.int k).key = some (.inl k) from rfl]; simp only [valD_I]
  cases hg : getI m k with
  | none => exact propext ⟨fun ⟨R, h, _⟩ => (by rw [e, hg] at h; obtain ⟨v, z, _⟩ := h; cases z), fun h => h.elim⟩
  | some v => exact propext ⟨fun ⟨R, h, r⟩ => by rw [e, hg] at h; obtain ⟨v', z, q⟩ := h; cases z; exact r _ q, fun h => ⟨fun a => P a μ, by rw [e, hg]; exact ⟨_, rfl, h⟩, fun _ q => q⟩⟩
@[simp] theorem l_dGetE {m : List (Int × Int)} {k z : Int} : M.lift (dGetE (.dic (dI m)) (.int k) (.int z)) = M.one (.int ((getI m k).getD z)) := lift_one fun R => by
  unfold dGetE; rw [show (D.int k).key = some (.inl k) from rfl]; simp only [valD_I]
  cases getI m k <;> rfl
/-- None or an integer -/
def oI : Option Int → D
  | none => .non
  | some i => .int i
def minO (l : List Int) : Option Int := if l = [] then none else some (minL l)
@[simp] theorem oI_none : oI none = .non := rfl
@[simp] theorem oI_some {i : Int} : oI (some i) = .int i := rfl
@[simp] theorem l_isOI {o : Option Int} : M.lift (fIs (oI o)) = M.one (.d (.bl o.isNone)) := by cases o <;> simp [oI]
@[simp] theorem l_isnOI {o : Option Int} : M.lift (fIsn (oI o)) = M.one (.d (.bl o.isSome)) := by cases o <;> simp [oI]
def firstTwice (ls : List (List Int)) : Option Int := minO (((tableL ls).filter fun p => decide (1 < p.2)).map (·.1))
/-- all sums, ascending -/
def sumsL (ls : List (List Int)) : List Int := isort ((tableL ls).map (·.1))
theorem sumsL_len {ls : List (List Int)} : (sumsL ls).length ≤ sizeL ls := by unfold sumsL; rw [isort_length, List.length_map]; exact table_len
def firstNever (ls : List (List Int)) : Option Int := ((List.range ((sumsL ls).length - 1)).find? fun k => decide (nth (sumsL ls) k + 1 < nth (sumsL ls) (k + 1))).map fun k => nth (sumsL ls) k + 1

--@use tab asc
/-- a base with its figures -/
structure BaseOk (p : Int) (fs : List Int) : Prop where
  p2 : (2 ≤ p ∧ p ≤ 40) ∨ (-40 ≤ p ∧ p ≤ -2)
  asc : Asc fs
  len : fs.length = p.natAbs
  bnd : ∀ f ∈ fs, -10000 ≤ f ∧ f ≤ 10000
  inj : ∀ f ∈ fs, ∀ g ∈ fs, f % (p.natAbs : Int) = g % (p.natAbs : Int) → f = g
  zero : (0 : Int) ∈ fs
def restD (q : Int) (fs : List Int) : List (Int × Int) := fs.map fun f => (f % q, f)
abbrev dBase (p : Int) (fs : List Int) : D := .ins (Str.ofString "Base") [(Str.ofString "power", .int p), (Str.ofString "signs", tI fs), (Str.ofString "by_rest", .dic (dI (restD (p.natAbs : Int) fs)))]
/-- the figure with the rest of a number, what is left without it -/
def lastB (p : Int) (fs : List Int) (n : Int) : Int := (fs.find? fun f => decide (f % (p.natAbs : Int) = n % (p.natAbs : Int))).getD 0
def restB (p : Int) (fs : List Int) (n : Int) : Int := (n - lastB p fs n) / p
section
variable {p : Int} {fs : List Int}
theorem BaseOk.q (h : BaseOk p fs) : 2 ≤ (p.natAbs : Int) ∧ (p.natAbs : Int) ≤ 40 := by have := h.p2; omega
theorem nodup_le {α : Type} : ∀ {l m : List α}, l.Nodup → (∀ x ∈ l, x ∈ m) → l.length ≤ m.length
  | [], _, _, _ => Nat.zero_le _
  | a :: l, m, hn, h => by
    obtain ⟨h1, h2⟩ := List.nodup_cons.mp hn
    obtain ⟨s, t, rfl⟩ := List.append_of_mem (h a (List.mem_cons_self ..))
    have := nodup_le (l := l) (m := s ++ t) h2 fun x hx => by
      have := h x (List.mem_cons_of_mem _ hx)
      rcases List.mem_append.mp this with q | q
      · exact List.mem_append_left _ q
      · rcases List.mem_cons.mp q with rfl | q
        · exact absurd hx h1
        · exact List.mem_append_right _ q
    rw [List.length_append] at this
    rw [List.length_cons, List.length_append, List.length_cons]
    omega
/-- all rests come -/
theorem nodup_all {n : Nat} {l : List Nat} (hn : l.Nodup) (hl : l.length = n) (hb : ∀ x ∈ l, x < n) (y : Nat) (hy : y < n) : y ∈ l := by
  by_cases c : y ∈ l
  · exact c
  · have := nodup_le (List.nodup_cons.mpr ⟨c, hn⟩) (m := List.range n) fun x hx => by
      rcases List.mem_cons.mp hx with rfl | hx
      · exact List.mem_range.mpr hy
      · exact List.mem_range.mpr (hb x hx)
    rw [List.length_cons, List.length_range] at this
    omega
theorem BaseOk.has (h : BaseOk p fs) (n : Int) : ∃ f ∈ fs, f % (p.natAbs : Int) = n % (p.natAbs : Int) := by
  have hq := h.q
  have hnd : (fs.map fun f => (f % (p.natAbs : Int)).toNat).Nodup := by
    refine List.pairwise_map.mpr (h.asc.imp_of_mem fun {a b} ha hb hlt e => ?_)
    have a0 := Int.emod_nonneg a (show (p.natAbs : Int) ≠ 0 by omega)
    have b0 := Int.emod_nonneg b (show (p.natAbs : Int) ≠ 0 by omega)
    have := h.inj a ha b hb (by omega)
    omega
  have m0 := Int.emod_nonneg n (show (p.natAbs : Int) ≠ 0 by omega)
  have m1 := Int.emod_lt_of_pos n (show (0 : Int) < (p.natAbs : Int) by omega)
  have := nodup_all hnd (by rw [List.length_map, h.len]) (fun x hx => by
    obtain ⟨f, _, rfl⟩ := List.mem_map.mp hx
    have a0 := Int.emod_nonneg f (show (p.natAbs : Int) ≠ 0 by omega)
    have a1 := Int.emod_lt_of_pos f (show (0 : Int) < (p.natAbs : Int) by omega)
    omega) (n % (p.natAbs : Int)).toNat (by omega)
  obtain ⟨f, hf, e⟩ := List.mem_map.mp this
  have a0 := Int.emod_nonneg f (show (p.natAbs : Int) ≠ 0 by omega)
  exact ⟨f, hf, by omega⟩
theorem BaseOk.lastM (h : BaseOk p fs) (n : Int) : lastB p fs n ∈ fs ∧ lastB p fs n % (p.natAbs : Int) = n % (p.natAbs : Int) ∧ (fs.find? fun f => decide (f % (p.natAbs : Int) = n % (p.natAbs : Int))) = some (lastB p fs n) := by
  obtain ⟨f, hf, e⟩ := h.has n
  unfold lastB
  cases c : fs.find? fun f => decide (f % (p.natAbs : Int) = n % (p.natAbs : Int)) with
  | none => exact absurd (decide_eq_true e) (List.find?_eq_none.mp c f hf)
  | some g => exact ⟨List.mem_of_find?_eq_some c, of_decide_eq_true (List.find?_some (p := fun f => decide (f % (p.natAbs : Int) = n % (p.natAbs : Int))) c), rfl⟩
theorem BaseOk.last_uniq (h : BaseOk p fs) {n f : Int} (hf : f ∈ fs) (e : f % (p.natAbs : Int) = n % (p.natAbs : Int)) : lastB p fs n = f := h.inj _ (h.lastM n).1 _ hf ((h.lastM n).2.1.trans e.symm)
theorem BaseOk.dvd (h : BaseOk p fs) (n : Int) : p ∣ n - lastB p fs n := by
  have := Int.emod_emod_of_dvd
  have e := (h.lastM n).2.1
  have : (p.natAbs : Int) ∣ n - lastB p fs n := Int.dvd_of_emod_eq_zero (Int.emod_eq_emod_iff_emod_sub_eq_zero.mp e.symm)
  exact Int.natAbs_dvd.mp this
theorem BaseOk.split (h : BaseOk p fs) (n : Int) : n = restB p fs n * p + lastB p fs n := by
  have := Int.ediv_mul_cancel (h.dvd n)
  unfold restB; omega
theorem BaseOk.p0 (h : BaseOk p fs) : p ≠ 0 := by have := h.p2; omega
/-- a figure behind -/
theorem BaseOk.snoc (h : BaseOk p fs) {v f : Int} (hf : f ∈ fs) : lastB p fs (v * p + f) = f ∧ restB p fs (v * p + f) = v := by
  have e : lastB p fs (v * p + f) = f := h.last_uniq hf (by
    have : (p.natAbs : Int) ∣ v * p := Int.natAbs_dvd.mpr (Int.dvd_mul_left ..)
    rw [Int.add_emod, Int.emod_eq_zero_of_dvd this, Int.zero_add, Int.emod_emod])
  refine ⟨e, ?_⟩
  unfold restB
  rw [e, show v * p + f - f = v * p by omega, Int.mul_ediv_cancel _ h.p0]
theorem BaseOk.zeroN (h : BaseOk p fs) : lastB p fs 0 = 0 ∧ restB p fs 0 = 0 := by
  have := h.snoc (v := 0) h.zero
  simpa using this
theorem get_rest {n : Int} {q : Int} : getI (restD q fs) n = fs.find? fun f => decide (f % q = n) := by
  unfold getI restD
  rw [List.find?_map, Option.map_map]
  show Option.map (fun f => f) (fs.find? fun f => decide (f % q = n)) = _
  cases fs.find? fun f => decide (f % q = n) <;> rfl
/-- dict of rests -/
theorem put_rest (h : BaseOk p fs) {pre post : List Int} {f : Int} (e : fs = pre ++ f :: post) : putI (restD (p.natAbs : Int) pre) (f % (p.natAbs : Int)) f = restD (p.natAbs : Int) (pre ++ [f]) := by
  unfold putI
  rw [if_neg]
  · unfold restD; rw [List.map_append]; rfl
  · intro z
    obtain ⟨x, hx, ex⟩ := List.any_eq_true.mp z
    obtain ⟨g, hg, rfl⟩ := List.mem_map.mp hx
    have ex := of_decide_eq_true ex
    have hA := h.asc
    have hi := h.inj g (by rw [e]; exact List.mem_append_left _ hg) f (by rw [e]; simp) ex
    rw [e] at hA
    have := (List.pairwise_append.mp hA).2.2 g hg f (List.mem_cons_self ..)
    omega
theorem any_rest (h : BaseOk p fs) {pre post : List Int} {f : Int} (e : fs = pre ++ f :: post) : f % (p.natAbs : Int) ∉ pre.map fun g => g % (p.natAbs : Int) := fun z => by
  obtain ⟨g, hg, ex⟩ := List.mem_map.mp z
  have hA := h.asc
  have hi := h.inj g (by rw [e]; exact List.mem_append_left _ hg) f (by rw [e]; simp) ex
  rw [e] at hA
  have := (List.pairwise_append.mp hA).2.2 g hg f (List.mem_cons_self ..)
  omega
/-! ### rows of figures -/
def valB (p : Int) (r : List Int) : Int := r.foldl (fun v f => v * p + f) 0
theorem valB_snoc {r : List Int} {f : Int} : valB p (r ++ [f]) = valB p r * p + f := by unfold valB; rw [List.foldl_append]; rfl
end

theorem mWhile_run {σ : Type} {t : EM Bool} {b : SM} {vs : List Nat} {ρ : Sl} (enc : σ → Sl) (fin : σ → MS) (f : σ → Nat) (ok : σ → Prop)
    (hs : ∀ s, ok s → (∀ K, (bindES (t (enc s)) fun c ρ1 => if c = true then bindL (loopEnd vs (b ρ1)) K else nx ρ1) = fin s) ∨ ∃ s', ok s' ∧ f s' < f s ∧ fin s' = fin s ∧ ∀ K, (bindES (t (enc s)) fun c ρ1 => if c = true then bindL (loopEnd vs (b ρ1)) K else nx ρ1) = K (enc s'))
    (s : σ) (h : ok s) (e : wipeS ρ vs = enc s) : mWhile t b vs ρ = fin s := by
  have key : ∀ m s, f s < m → ok s → ∃ N, ∀ n, mWhileN t b vs n (enc s) = if N < n then fin s else M.bad := by
    intro m
    induction m with
    | zero => exact fun s h => absurd h (Nat.not_lt_zero _)
    | succ m ih =>
      intro s hf ho
      rcases hs s ho with h | ⟨s', h1, h2, h3, h4⟩
      · refine ⟨0, fun n => ?_⟩
        cases n with
        | zero => rfl
        | succ n => rw [if_pos (Nat.succ_pos _)]; exact h _
      · obtain ⟨N, hN⟩ := ih s' (by omega) h1
        refine ⟨N + 1, fun n => ?_⟩
        cases n with
        | zero => rfl
        | succ n =>
          have : mWhileN t b vs (n + 1) (enc s) = mWhileN t b vs n (enc s') := h4 _
          rw [this, hN, h3]
          by_cases c : N < n
          · rw [if_pos c, if_pos (by omega)]
          · rw [if_neg c, if_neg (by omega)]
  obtain ⟨N, hN⟩ := key _ s (Nat.lt_succ_self _) h
  refine M.ext fun μ P => propext ⟨fun h => ?_, fun h => ⟨N + 1, ?_⟩⟩
  · obtain ⟨n, hn⟩ := h
    rw [e, hN] at hn
    split at hn
    · exact hn
    · exact hn.elim
  · rw [e, hN, if_pos (Nat.lt_succ_self _)]; exact h
theorem forL_findE {α : Type} {step : α → Sl → MS} {l : List α} {ρ : Sl} (f : List α → Sl) (p : α → Bool) (r : α → MS) (e : ρ = f []) (hr : ∀ a k, bindL (r a) k = r a) (h : ∀ pre a post, l = pre ++ a :: post → (∀ x ∈ pre, p x = false) → step a (f pre) = if p a = true then r a else nx (f (pre ++ [a]))) :
    forL step l ρ = match l.find? p with
      | some a => r a
      | none => nx (f l) := by rw [e]; exact forL_find f p r hr h
theorem l_setIx_own {f : List Int} {i : Nat} {v : Int} (h : i < f.length) : M.lift (sIx (S.own (f.map D.int)) (D.int (i : Int)) (D.int v)) = M.one (.own ((f.set i v).map D.int)) := by
  have hx : ixN (f.map D.int).length (i : Int) = some i := by
    unfold ixN
    rw [List.length_map]
    simp
    omega
  refine lift_one fun R => propext ⟨fun ⟨n, e, r⟩ => ?_, fun r => ⟨i, hx, by rw [← List.map_set]; exact r⟩⟩
  rw [hx] at e; cases e
  rw [List.map_set]; exact r

--@use base while
/-- a figure of the base -/
def figB (fs : List Int) : D → Bool
  | .int i => decide (i ∈ fs)
  | _ => false
def rowBad (fs : List Int) (ds : List D) : Option Nat := (List.range ds.length).find? fun k => decide (k = 80) || !figB fs (nth ds k)
/-- the index of what is wrong -/
def rowI (fs : List Int) : D → Option D
  | .tup ds => (rowBad fs ds).map fun k : Nat => D.int k
  | _ => some .non
structure RowD (d : D) : Prop where
  kn : d.known = true
  el : ∀ ds, d = .tup ds → ds.length ≤ 90 ∧ ∀ e ∈ ds, e.known = true
theorem isT_tup {d : D} (h : d.isT = true) : ∃ ds, d = .tup ds := by cases d <;> first | (cases h; done) | exact ⟨_, rfl⟩
/-- what is told of it -/
def dueI : Option D → D
  | none => .tup []
  | some i => .tup [.str "InvalidFigures", i]
theorem RowD.tup {ds : List D} (h1 : ds.length ≤ 90) (h2 : ∀ e ∈ ds, e.known = true) : RowD (.tup ds) := ⟨rfl, fun es e => by injection e with e; subst e; exact ⟨h1, h2⟩⟩
theorem RowD.other {d : D} (h1 : d.known = true) (h2 : d.isT = false) : RowD d := ⟨h1, fun es e => by subst e; cases h2⟩
theorem cut_len {α : Type} {xs : List α} {lo hi : Option Int} : (cutD xs lo hi).length ≤ xs.length := by
  unfold cutD
  refine Nat.le_trans (List.length_take_le' ..) ?_
  rw [List.length_drop]; omega

--@use rowd inb
def intD : D → Int
  | .int i => i
  | _ => 0
/-- what is wrong with a figure behind others -/
def figBadI (q : Int) (pre : List Int) : D → Bool
  | .int i => decide ((pre.length : Int) = q) || !decide (-10000 ≤ i ∧ i ≤ 10000) || decide (i % q ∈ pre.map fun g => g % q) || (decide (pre ≠ []) && decide (i ≤ nth pre (pre.length - 1)))
  | _ => true
def badK (q : Int) (ds : List D) (k : Nat) : Bool := figBadI q ((ds.take k).map intD) (nth ds k)
/-- the index of what is wrong with the figures -/
def figsT (q : Int) (ds : List D) : Option Nat → Option D
  | some k => some (.int (k : Nat))
  | none => if (ds.length : Int) < q then some (.int (ds.length : Nat)) else if (0 : Int) ∈ ds.map intD then none else some .non
def figsDue (q : Int) : D → Option D
  | .tup ds => figsT q ds ((List.range ds.length).find? (badK q ds))
  | _ => some .non
theorem bad_int {q : Int} {pre : List Int} {x : D} (h : figBadI q pre x = false) : x = .int (intD x) := by cases x <;> first | rfl | cases h
theorem ints_of {q : Int} {ds : List D} {k : Nat} (hk : k ≤ ds.length) (h : ∀ j, j < k → badK q ds j = false) : ds.take k = ((ds.take k).map intD).map .int := by
  rw [List.map_map]
  refine List.ext_getElem (by simp) fun j j1 j2 => ?_
  rw [List.getElem_map]
  rw [List.length_take] at j1
  have := bad_int (h j (by omega))
  rw [nth_lt (by omega)] at this
  rw [List.getElem_take]
  exact this
theorem prefix_range {n k : Nat} {pre post : List Nat} (e : List.range n = pre ++ k :: post) : pre = List.range k ∧ k < n := by
  have hk : k < n := List.mem_range.mp (by rw [e]; simp)
  have hl : pre.length = k := by
    have := congrArg (fun l => l[pre.length]?) e
    simp at this
    have h2 : pre.length < n := by
      have := congrArg List.length e
      simp at this; omega
    rw [List.getElem?_range h2] at this
    exact Option.some.inj this
  refine ⟨?_, hk⟩
  have := congrArg (fun l => l.take pre.length) e
  simp at this
  rw [← this, hl, Nat.min_eq_left (by omega)]
theorem figs_some {q : Int} {ds : List D} {k : Nat} (h : (List.range ds.length).find? (badK q ds) = some k) : figsDue q (.tup ds) = some (D.int (k : Nat)) := by
  unfold figsDue; dsimp only; rw [h]; rfl
theorem figs_none {q : Int} {ds : List D} (h : (List.range ds.length).find? (badK q ds) = none) : figsDue q (.tup ds) = if (ds.length : Int) < q then some (D.int (ds.length : Nat)) else if (0 : Int) ∈ ds.map intD then none else some .non := by
  unfold figsDue; dsimp only; rw [h]; rfl

/-- check_figures(figures, size); slots: 0 figures, 1 size, 2 met, 3 index -/
def b_check_figures : SM := (mSeq (mIf (mNot (mB (mCallB fIsi (mCons (mVar 0) (mCons (mC (.v (.ty "tuple"))) mNil))))) (mRaise1 (Str.ofString "InvalidFigures") (Str.ofString "index") (mC .non)) mNext)
  (mSeq (mSet 2 mDic0)
  (mSeq (mFor (mRng rg1 (mCons (mCallB fLen (mCons (mVar 0) mNil)) mNil)) (fName 3) (mSeq (mIf (mOr (mB (mBin fEq (mVar 3) (mVar 1))) (mOr (mNot (mB (mCall 3 f_is_within (mCons (mIxV 0 (mVar 3)) (mCons (mUn fNeg (mC (.int 10000))) (mCons (mC (.int 10000)) mNil)))))) (mB (mDinV false 2 (mBin fMod (mIxV 0 (mVar 3)) (mVar 1)))))) (mRaise1 (Str.ofString "InvalidFigures") (Str.ofString "index") (mVar 3)) mNext)
  (mSeq (mIf (mAnd (mB (mBin fGt (mVar 3) (mC (.int 0)))) (mB (mBin fLe (mIxV 0 (mVar 3)) (mIxV 0 (mBin fSub (mVar 3) (mC (.int 1))))))) (mRaise1 (Str.ofString "InvalidFigures") (Str.ofString "index") (mVar 3)) mNext)
  (mDput 2 (mBin fMod (mIxV 0 (mVar 3)) (mVar 1)) (mC (.bl true))))) [3])
  (mSeq (mIf (mB (mBin fLt (mCallB fLen (mCons (mVar 0) mNil)) (mVar 1))) (mRaise1 (Str.ofString "InvalidFigures") (Str.ofString "index") (mCallB fLen (mCons (mVar 0) mNil))) mNext)
  (mIf (mB (mBin fNin (mC (.int 0)) (mVar 0))) (mRaise1 (Str.ofString "InvalidFigures") (Str.ofString "index") (mC .non)) mNext)))))
def f_check_figures : FM := defM b_check_figures [(Str.ofString "figures"), (Str.ofString "size"), (Str.ofString "met"), (Str.ofString "index")]
--@use figs
def metF (q : Int) (l : List Int) : List (Key × D) := l.map fun f => (.inl (f % q), .bl true)
theorem metF_none {q : Int} {l : List Int} {x : Int} (h : x ∉ l.map fun g => g % q) : valD (metF q l) (.inl x) = none := by
  unfold valD metF
  rw [List.find?_map, Option.map_map, Option.map_eq_none_iff, List.find?_eq_none]
  intro g hg z
  have z := of_decide_eq_true z
  injection z with z
  exact h (List.mem_map.mpr ⟨g, hg, z⟩)
theorem metF_put {q : Int} {l : List Int} {x : Int} (h : x % q ∉ l.map fun g => g % q) : putD (metF q l) (.inl (x % q)) (.bl true) = metF q (l ++ [x]) := by
  unfold putD
  rw [if_neg]
  · unfold metF; rw [List.map_append]; rfl
  · intro z
    obtain ⟨y, hy, ey⟩ := List.any_eq_true.mp z
    obtain ⟨g, hg, rfl⟩ := List.mem_map.mp hy
    have ey := of_decide_eq_true ey
    injection ey with ey
    exact h (List.mem_map.mpr ⟨g, hg, ey⟩)
theorem check_figures_eq {p : Int} {fs : List Int} (h : BaseOk p fs) : f_check_figures [tI fs, .int (p.natAbs : Int)] = val (.d .non) := by
  have hq := h.q
  have hlen := h.len
  have hz := h.zero
  have hany : ∀ i, i < fs.length → nth fs i % (p.natAbs : Int) ∉ (fs.take i).map fun g => g % (p.natAbs : Int) := fun i hi =>
    any_rest h (by rw [nth_lt hi, ← List.drop_eq_getElem_cons hi, List.take_append_drop] : fs = fs.take i ++ nth fs i :: fs.drop (i + 1))
  generalize p.natAbs = q at *
  have hfm : ∀ x : Int, x.fmod (q : Int) = x % (q : Int) := fun x => Int.fmod_eq_emod_of_nonneg _ (by omega)
  (conv => { lhs; simp -implicitDefEqProofs [l_neSelf, l_eqSelf, key_int, key_str, keyD, defM, initM, tail_mapS, take_mapS, drop_mapS, sl0, slI, lcAll_map, lcAll_rng, forL_map, forL_rng, -List.map_take, -List.map_drop, -List.map_tail, -List.map_reverse, f_check_figures, b_check_figures] })
  rw [req_of (by omega)]
  rw [forL_range (fun i => [some (.d (tI fs)), some (.d (.int (q : Int))), some (.odic (metF (q : Int) (fs.take i))), none]) (by rfl) fun i hi => ?_]
  · have e1 : ¬ fs.length < q := by omega
    simp -implicitDefEqProofs [l_neSelf, l_eqSelf, key_int, key_str, keyD, defM, initM, tail_mapS, take_mapS, drop_mapS, sl0, slI, lcAll_map, lcAll_rng, forL_map, forL_rng, -List.map_take, -List.map_drop, -List.map_tail, -List.map_reverse, hz, e1]
  · have hm : nth fs i ∈ fs := nth_in hi
    have hb := h.bnd _ hm
    have hn := hany i hi
    have hne : ¬ (i : Int) = (q : Int) := by omega
    have hq0 : ¬ q = 0 := by omega
    have hb2 : ¬ (-10000 ≤ nth fs i → 10000 < nth fs i) := by omega
    have hv := metF_none hn
    have hp := metF_put hn
    have htk : fs.take i ++ [nth fs i] = fs.take (i + 1) := by rw [nth_lt hi, List.take_append_getElem]
    rw [htk] at hp
    have hml : (metF (q : Int) (fs.take i)).length < 16777216 := by simp [metF]; omega
    by_cases z : i = 0
    · have hi4 : ¬ 0 < i := by omega
      simp -implicitDefEqProofs [l_neSelf, l_eqSelf, key_int, key_str, keyD, defM, initM, tail_mapS, take_mapS, drop_mapS, sl0, slI, lcAll_map, lcAll_rng, forL_map, forL_rng, -List.map_take, -List.map_drop, -List.map_tail, -List.map_reverse, hi, hne, hb2, hq0, hfm, hv, hi4, hp, hml]
    · have hasc : nth fs (i - 1) < nth fs i := by
        rw [nth_lt (by omega : i - 1 < fs.length), nth_lt hi]
        exact List.pairwise_iff_getElem.mp h.asc (i - 1) i (by omega) hi (by omega)
      have hi1 : (i : Int) - 1 = ((i - 1 : Nat) : Int) := by omega
      have hi2 : i - 1 < fs.length := by omega
      have hi3 : ¬ nth fs i ≤ nth fs (i - 1) := by omega
      have hi4 : 0 < i := by omega
      simp -implicitDefEqProofs [l_neSelf, l_eqSelf, key_int, key_str, keyD, defM, initM, tail_mapS, take_mapS, drop_mapS, sl0, slI, lcAll_map, lcAll_rng, forL_map, forL_rng, -List.map_take, -List.map_drop, -List.map_tail, -List.map_reverse, hi, hne, hb2, hq0, hfm, hv, hi1, hi2, hi3, hi4, hp, hml]
theorem metF_some {q x : Int} {l : List Int} : (valD (metF q l) (.inl x)).isSome = decide (x ∈ l.map fun g => g % q) := by
  by_cases c : x ∈ l.map fun g => g % q
  · rw [decide_eq_true c]
    obtain ⟨g, hg, e⟩ := List.mem_map.mp c
    unfold valD metF
    rw [Option.isSome_map, List.find?_isSome]
    exact ⟨_, List.mem_map.mpr ⟨g, hg, rfl⟩, by simp [e]⟩
  · rw [decide_eq_false c, metF_none c]; rfl
theorem check_figures_gen {q : Int} {d : D} (hq : 2 ≤ q ∧ q ≤ 40) (h : RowD d) : f_check_figures [d, .int q] = match figsDue q d with
    | none => val (.d .non)
    | some i => exn ⟨"InvalidFigures", [("index", i)]⟩ := by
  have hk := h.kn
  cases ht : d.isT with
  | false =>
    have e : figsDue q d = some .non := by cases d <;> first | rfl | cases ht
    rw [e]
    (conv => { lhs; simp -implicitDefEqProofs [l_neSelf, l_eqSelf, key_int, key_str, keyD, defM, initM, tail_mapS, take_mapS, drop_mapS, sl0, slI, lcAll_map, lcAll_rng, forL_map, forL_rng, -List.map_take, -List.map_drop, -List.map_tail, -List.map_reverse, f_check_figures, b_check_figures, l_isi_tup hk, ht] })
  | true =>
    obtain ⟨ds, rfl⟩ := isT_tup ht
    obtain ⟨hl, he⟩ := h.el ds rfl
    have hfm : ∀ x : Int, x.fmod q = x % q := fun x => Int.fmod_eq_emod_of_nonneg _ (by omega)
    have hq0 : ¬ q = 0 := by omega
    (conv => { lhs; simp -implicitDefEqProofs [l_neSelf, l_eqSelf, key_int, key_str, keyD, defM, initM, tail_mapS, take_mapS, drop_mapS, sl0, slI, lcAll_map, lcAll_rng, forL_map, forL_rng, -List.map_take, -List.map_drop, -List.map_tail, -List.map_reverse, f_check_figures, b_check_figures] })
    rw [req_of (by omega)]
    rw [forL_findE (ρ := [some (.d (.tup ds)), some (.d (.int q)), some (.odic []), none]) (fun pre : List Nat => [some (.d (.tup ds)), some (.d (.int q)), some (.odic (metF q ((ds.take pre.length).map intD))), none]) (badK q ds) (fun k => ex ⟨"InvalidFigures", [("index", .int k)]⟩ [some (.d (.tup ds)), some (.d (.int q)), some (.odic (metF q ((ds.take k).map intD))), some (.d (.int k))]) rfl (fun _ _ => rfl) fun pre k post e hp => ?_]
    · cases hf : (List.range ds.length).find? (badK q ds) with
      | some k =>
        rw [figs_some hf]
        simp -implicitDefEqProofs [l_neSelf, l_eqSelf, key_int, key_str, keyD, defM, initM, tail_mapS, take_mapS, drop_mapS, sl0, slI, lcAll_map, lcAll_rng, forL_map, forL_rng, -List.map_take, -List.map_drop, -List.map_tail, -List.map_reverse]
      | none =>
        rw [figs_none hf]
        have hf := List.find?_eq_none.mp hf
        have hds := ints_of (q := q) (ds := ds) (Nat.le_refl _) fun j hj => by
          have := hf j (List.mem_range.mpr hj)
          simpa using this
        rw [List.take_length] at hds
        generalize ds.map intD = fs at *
        subst hds
        by_cases c1 : (fs.length : Int) < q
        · simp -implicitDefEqProofs [l_neSelf, l_eqSelf, key_int, key_str, keyD, defM, initM, tail_mapS, take_mapS, drop_mapS, sl0, slI, lcAll_map, lcAll_rng, forL_map, forL_rng, -List.map_take, -List.map_drop, -List.map_tail, -List.map_reverse, c1]
        · by_cases c2 : (0 : Int) ∈ fs
          · simp -implicitDefEqProofs [l_neSelf, l_eqSelf, key_int, key_str, keyD, defM, initM, tail_mapS, take_mapS, drop_mapS, sl0, slI, lcAll_map, lcAll_rng, forL_map, forL_rng, -List.map_take, -List.map_drop, -List.map_tail, -List.map_reverse, c1, c2]
          · simp -implicitDefEqProofs [l_neSelf, l_eqSelf, key_int, key_str, keyD, defM, initM, tail_mapS, take_mapS, drop_mapS, sl0, slI, lcAll_map, lcAll_rng, forL_map, forL_rng, -List.map_take, -List.map_drop, -List.map_tail, -List.map_reverse, c1, c2]
    · obtain ⟨rfl, hk⟩ := prefix_range e
      have hg : ∀ j, j < k → badK q ds j = false := fun j hj => hp j (List.mem_range.mpr hj)
      have hpre := ints_of (q := q) (Nat.le_of_lt hk) hg
      have hlp : ((ds.take k).map intD).length = k := by simp; omega
      have hix : ixM ds (k : Int) = M.one (.d (nth ds k)) := ixM_some (L2.atI_nat (nth_some hk))
      have hx := he _ (nth_mem hk)
      have hix2 : 0 < k → ixM ds ((k : Int) - 1) = M.one (.d (.int (nth ((ds.take k).map intD) (k - 1)))) := fun h0 => by
        rw [show (k : Int) - 1 = ((k - 1 : Nat) : Int) by omega]
        refine ixM_some (L2.atI_nat ?_)
        have := congrArg (fun l => l[k - 1]?) hpre
        simp only [List.getElem?_map] at this
        rw [List.getElem?_take_of_lt (by omega)] at this
        rw [this]
        have h2 : k - 1 < ((ds.take k).map intD).length := by omega
        rw [nth_lt h2]
        rw [List.getElem_map, List.getElem_take, List.getElem?_eq_getElem (show k - 1 < ds.length by omega)]
        rfl
      have hlm : (metF q ((ds.take k).map intD)).length < 16777216 := by simp [metF]; omega
      have hnx : (ds.take (k + 1)).map intD = (ds.take k).map intD ++ [intD (nth ds k)] := by
        rw [nth_lt hk, ← List.take_append_getElem hk, List.map_append]; rfl
      have hlr : (List.range k ++ [k]).length = k + 1 := by simp
      have hlr0 : (List.range k).length = k := by simp
      rw [hlr, hlr0, hnx]
      unfold badK
      clear hp hg hpre
      have hw := is_within_gen (a := -10000) (b := 10000) hx
      generalize (ds.take k).map intD = pr at *
      generalize nth ds k = x at *
      cases x with
      | int i =>
        rw [show intD (D.int i) = i from rfl]
        have hv := metF_some (q := q) (l := pr) (x := i % q)
        by_cases c1 : (k : Int) = q
        · have hb : figBadI q pr (.int i) = true := by simp [figBadI, hlp, c1]
          rw [hb]
          simp -implicitDefEqProofs [l_neSelf, l_eqSelf, key_int, key_str, keyD, defM, initM, tail_mapS, take_mapS, drop_mapS, sl0, slI, lcAll_map, lcAll_rng, forL_map, forL_rng, -List.map_take, -List.map_drop, -List.map_tail, -List.map_reverse, hk, c1]
        · by_cases c2 : -10000 ≤ i ∧ i ≤ 10000
          · have hw2 : inB (-10000) 10000 (.int i) = true := decide_eq_true c2
            rw [hw2] at hw
            by_cases c3 : i % q ∈ pr.map fun g => g % q
            · have hb : figBadI q pr (.int i) = true := by simp only [figBadI, decide_eq_true c3, Bool.or_true, Bool.true_or]
              rw [hb]
              rw [decide_eq_true c3] at hv
              simp -implicitDefEqProofs [l_neSelf, l_eqSelf, key_int, key_str, keyD, defM, initM, tail_mapS, take_mapS, drop_mapS, sl0, slI, lcAll_map, lcAll_rng, forL_map, forL_rng, -List.map_take, -List.map_drop, -List.map_tail, -List.map_reverse, hk, c1, hw, hix, hfm, hq0, hv]
            · have hp := metF_put c3
              rw [decide_eq_false c3] at hv
              by_cases c4 : 0 < k
              · have c4' : pr ≠ [] := fun z => by rw [z] at hlp; simp at hlp; omega
                have hix2 := hix2 c4
                rw [show k - 1 = pr.length - 1 by omega] at hix2
                by_cases c5 : i ≤ nth pr (pr.length - 1)
                · have hb : figBadI q pr (.int i) = true := by simp only [figBadI, decide_eq_true c4', decide_eq_true c5, Bool.or_true, Bool.true_and]
                  rw [hb]
                  simp -implicitDefEqProofs [l_neSelf, l_eqSelf, key_int, key_str, keyD, defM, initM, tail_mapS, take_mapS, drop_mapS, sl0, slI, lcAll_map, lcAll_rng, forL_map, forL_rng, -List.map_take, -List.map_drop, -List.map_tail, -List.map_reverse, hk, c1, hw, hix, hfm, hq0, hv, c4, hix2, c5]
                · have hb : figBadI q pr (.int i) = false := by
                    simp only [figBadI, decide_eq_false c5, decide_eq_false c3, decide_eq_true c2, Bool.and_false, Bool.or_false, Bool.not_true]
                    rw [hlp]; exact decide_eq_false c1
                  rw [hb]
                  simp -implicitDefEqProofs [l_neSelf, l_eqSelf, key_int, key_str, keyD, defM, initM, tail_mapS, take_mapS, drop_mapS, sl0, slI, lcAll_map, lcAll_rng, forL_map, forL_rng, -List.map_take, -List.map_drop, -List.map_tail, -List.map_reverse, hk, c1, hw, hix, hfm, hq0, hv, c4, hix2, c5, hp, hlm]
              · have c4' : pr = [] := List.length_eq_zero_iff.mp (by omega)
                have hb : figBadI q pr (.int i) = false := by
                  simp only [figBadI, show decide (pr ≠ []) = false from decide_eq_false fun z => z c4', decide_eq_false c3, decide_eq_true c2, Bool.false_and, Bool.or_false, Bool.not_true]
                  rw [hlp]; exact decide_eq_false c1
                rw [hb]
                simp -implicitDefEqProofs [l_neSelf, l_eqSelf, key_int, key_str, keyD, defM, initM, tail_mapS, take_mapS, drop_mapS, sl0, slI, lcAll_map, lcAll_rng, forL_map, forL_rng, -List.map_take, -List.map_drop, -List.map_tail, -List.map_reverse, hk, c1, hw, hix, hfm, hq0, hv, c4, hp, hlm]
          · have hw2 : inB (-10000) 10000 (.int i) = false := decide_eq_false c2
            rw [hw2] at hw
            have hb : figBadI q pr (.int i) = true := by simp only [figBadI, decide_eq_false c2, Bool.not_false, Bool.or_true, Bool.true_or]
            rw [hb]
            simp -implicitDefEqProofs [l_neSelf, l_eqSelf, key_int, key_str, keyD, defM, initM, tail_mapS, take_mapS, drop_mapS, sl0, slI, lcAll_map, lcAll_rng, forL_map, forL_rng, -List.map_take, -List.map_drop, -List.map_tail, -List.map_reverse, hk, c1, hw, hix]
      | _ =>
        rw [show figBadI q pr _ = true from rfl]
        by_cases c1 : (k : Int) = q
        · simp -implicitDefEqProofs [l_neSelf, l_eqSelf, key_int, key_str, keyD, defM, initM, tail_mapS, take_mapS, drop_mapS, sl0, slI, lcAll_map, lcAll_rng, forL_map, forL_rng, -List.map_take, -List.map_drop, -List.map_tail, -List.map_reverse, hk, c1]
        · simp -implicitDefEqProofs [l_neSelf, l_eqSelf, key_int, key_str, keyD, defM, initM, tail_mapS, take_mapS, drop_mapS, sl0, slI, lcAll_map, lcAll_rng, forL_map, forL_rng, -List.map_take, -List.map_drop, -List.map_tail, -List.map_reverse, hk, c1, hw, hix, inB]

/-- last_of(base, number); slots: 0 base, 1 number -/
def b_last_of : SM := (mRet (mDgetX (mFld (Str.ofString "Base") (Str.ofString "by_rest") (mVar 0)) (mBin fMod (mVar 1) (mCallB fAbs (mCons (mFld (Str.ofString "Base") (Str.ofString "power") (mVar 0)) mNil)))))
def f_last_of : FM := defM b_last_of [(Str.ofString "base"), (Str.ofString "number")]
--@use base
theorem absI {p : Int} : (if p < 0 then -p else p) = (p.natAbs : Int) := by split <;> omega
theorem last_of_eq {p n : Int} {fs : List Int} (h : BaseOk p fs) : f_last_of [dBase p fs, .int n] = val (.d (.int (lastB p fs n))) := by
  have hq := h.q
  have hf := (h.lastM n).2.2
  have hfm : n.fmod (p.natAbs : Int) = n % (p.natAbs : Int) := Int.fmod_eq_emod_of_nonneg _ (by omega)
  (conv => { lhs; simp -implicitDefEqProofs [l_neSelf, l_eqSelf, key_int, key_str, keyD, defM, initM, tail_mapS, take_mapS, drop_mapS, sl0, slI, lcAll_map, lcAll_rng, forL_map, forL_rng, -List.map_take, -List.map_drop, -List.map_tail, -List.map_reverse, f_last_of, b_last_of, absI, hfm, get_rest, hf] })
  rw [req_of (by omega)]

/-- rest_of(base, number); slots: 0 base, 1 number -/
def b_rest_of : SM := (mRet (mBin fDiv (mBin fSub (mVar 1) (mCall 2 f_last_of (mCons (mVar 0) (mCons (mVar 1) mNil)))) (mFld (Str.ofString "Base") (Str.ofString "power") (mVar 0))))
def f_rest_of : FM := defM b_rest_of [(Str.ofString "base"), (Str.ofString "number")]
theorem rest_of_eq {p n : Int} {fs : List Int} (h : BaseOk p fs) : f_rest_of [dBase p fs, .int n] = val (.d (.int (restB p fs n))) := by
  have hp := h.p2
  have e := last_of_eq (n := n) h
  have hfd : (n - lastB p fs n).fdiv p = restB p fs n := Int.fdiv_eq_ediv_of_dvd (h.dvd n)
  have hdo : DL.DivOk (n - lastB p fs n) p := divOk_n h.p0 (by omega)
  (conv => { lhs; simp -implicitDefEqProofs [l_neSelf, l_eqSelf, key_int, key_str, keyD, defM, initM, tail_mapS, take_mapS, drop_mapS, sl0, slI, lcAll_map, lcAll_rng, forL_map, forL_rng, -List.map_take, -List.map_drop, -List.map_tail, -List.map_reverse, f_rest_of, b_rest_of, e, hfd, hdo] })

--@use base
section
variable {p : Int} {fs : List Int}
def itB (p : Int) (fs : List Int) : Nat → Int → Int
  | 0, n => n
  | i + 1, n => restB p fs (itB p fs i n)
theorem itB_add {n : Int} {j : Nat} : ∀ i : Nat, itB p fs (i + j) n = itB p fs i (itB p fs j n)
  | 0 => by rw [Nat.zero_add]; rfl
  | i + 1 => by rw [Nat.succ_add]; show restB p fs (itB p fs (i + j) n) = _; rw [itB_add i]; rfl
/-- the figures found in so many turns, the last one first -/
def foundB (p : Int) (fs : List Int) (n : Int) (k : Nat) : List Int := (List.range k).map fun j => lastB p fs (itB p fs j n)
theorem foundB_succ {n : Int} {k : Nat} : foundB p fs n (k + 1) = foundB p fs n k ++ [lastB p fs (itB p fs k n)] := by unfold foundB; rw [List.range_succ, List.map_append]; rfl
/-- the numbers met -/
def metB (p : Int) (fs : List Int) (n : Int) (k : Nat) : List Int := (List.range k).map fun j => itB p fs j n
theorem metB_succ {n : Int} {k : Nat} : metB p fs n (k + 1) = metB p fs n k ++ [itB p fs k n] := by unfold metB; rw [List.range_succ, List.map_append]; rfl
theorem mem_metB {n x : Int} {k : Nat} : x ∈ metB p fs n k ↔ ∃ j, j < k ∧ itB p fs j n = x := by
  unfold metB; rw [List.mem_map]
  exact ⟨fun ⟨j, h, e⟩ => ⟨j, List.mem_range.mp h, e⟩, fun ⟨j, h, e⟩ => ⟨j, List.mem_range.mpr h, e⟩⟩
/-- the turn that is the last -/
structure StopB (p : Int) (fs : List Int) (n : Int) (k : Nat) : Prop where
  go : ∀ i, i < k → itB p fs i n ≠ 0 ∧ itB p fs i n ∉ metB p fs n i
  stop : itB p fs k n = 0 ∨ itB p fs k n ∈ metB p fs n k
theorem BaseOk.step (h : BaseOk p fs) (n : Int) : (restB p fs n).natAbs * 2 ≤ n.natAbs + 10000 := by
  have e := h.split n
  have hb := h.bnd _ (h.lastM n).1
  have hp := h.p2
  have h1 : (restB p fs n * p).natAbs ≤ n.natAbs + 10000 := by omega
  rw [Int.natAbs_mul] at h1
  have h2 : (restB p fs n).natAbs * 2 ≤ (restB p fs n).natAbs * p.natAbs := Nat.mul_le_mul_left _ (by omega)
  omega
theorem BaseOk.small (h : BaseOk p fs) {n : Int} {b : Nat} (hn : n.natAbs ≤ 2 ^ b + 10000) : ∀ i : Nat, i ≤ b → (itB p fs i n).natAbs ≤ 2 ^ (b - i) + 10000
  | 0, _ => hn
  | i + 1, hi => by
    have ih := h.small hn i (by omega)
    have := h.step (itB p fs i n)
    have e : 2 ^ (b - i) = 2 ^ (b - (i + 1)) * 2 := by rw [← Nat.pow_succ]; congr 1; omega
    show (restB p fs (itB p fs i n)).natAbs ≤ _
    omega
theorem BaseOk.small2 (h : BaseOk p fs) {n : Int} (hn : n.natAbs ≤ 10001) : ∀ i : Nat, (itB p fs i n).natAbs ≤ 10001
  | 0 => hn
  | i + 1 => by
    have ih := h.small2 hn i
    have := h.step (itB p fs i n)
    show (restB p fs (itB p fs i n)).natAbs ≤ _
    omega
theorem BaseOk.stop_ex (h : BaseOk p fs) {n : Int} {b : Nat} (hn : n.natAbs ≤ 2 ^ b) : ∃ k, k ≤ b + 20004 ∧ StopB p fs n k := by
  have hs : ∀ i, b ≤ i → (itB p fs i n).natAbs ≤ 10001 := fun i hi => by
    have h1 := h.small (n := n) (b := b) (by omega) b (Nat.le_refl _)
    rw [Nat.sub_self, Nat.pow_zero] at h1
    have := h.small2 (n := itB p fs b n) (by omega) (i - b)
    rwa [← itB_add, show i - b + b = i by omega] at this
  have hex : ∃ k, k ≤ b + 20004 ∧ itB p fs k n ∈ metB p fs n k := by
    by_cases c : ∃ k, k ≤ b + 20004 ∧ itB p fs k n ∈ metB p fs n k
    · exact c
    · exfalso
      have hnd : ((List.range 20004).map fun j => itB p fs (b + j) n).Nodup := by
        refine List.pairwise_map.mpr ((List.pairwise_lt_range (n := 20004)).imp_of_mem fun {x y} hx hy hxy e => c ⟨b + y, by have := List.mem_range.mp hy; omega, mem_metB.mpr ⟨b + x, by omega, e⟩⟩)
      have := nodup_le hnd (m := (List.range 20003).map fun (j : Nat) => (j : Int) - 10001) fun x hx => by
        obtain ⟨j, _, rfl⟩ := List.mem_map.mp hx
        have := hs (b + j) (by omega)
        exact List.mem_map.mpr ⟨(itB p fs (b + j) n + 10001).toNat, List.mem_range.mpr (by omega), by omega⟩
      rw [List.length_map, List.length_map, List.length_range, List.length_range] at this
      omega
  obtain ⟨k0, hk0, hm⟩ := hex
  have : ∀ m, m ≤ k0 → (∃ k, k ≤ m ∧ StopB p fs n k) ∨ ∀ i, i ≤ m → itB p fs i n ≠ 0 ∧ itB p fs i n ∉ metB p fs n i := fun m => by
    induction m with
    | zero =>
      intro _
      by_cases c : itB p fs 0 n = 0
      · exact .inl ⟨0, Nat.le_refl _, fun i hi => absurd hi (Nat.not_lt_zero _), .inl c⟩
      · exact .inr fun i hi => by
          rw [Nat.le_zero.mp hi]
          exact ⟨c, by simp [metB]⟩
    | succ m ih =>
      intro hm
      rcases ih (by omega) with ⟨k, a, b⟩ | q
      · exact .inl ⟨k, by omega, b⟩
      · by_cases c : itB p fs (m + 1) n = 0 ∨ itB p fs (m + 1) n ∈ metB p fs n (m + 1)
        · exact .inl ⟨m + 1, Nat.le_refl _, fun i hi => q i (by omega), c⟩
        · rw [not_or] at c
          refine .inr fun i hi => ?_
          by_cases z : i = m + 1
          · rw [z]; exact c
          · exact q i (by omega)
  rcases this k0 (Nat.le_refl _) with ⟨k, a, b⟩ | q
  · exact ⟨k, by omega, b⟩
  · exact absurd hm (q k0 (Nat.le_refl _)).2
/-- what is found and what is left make the number -/
theorem BaseOk.reads (h : BaseOk p fs) {n : Int} : ∀ k : Nat, n = itB p fs k n * p ^ k + valB p (foundB p fs n k).reverse := fun k => by
  have key : ∀ (k : Nat) (n : Int), n = itB p fs k n * p ^ k + valB p (foundB p fs n k).reverse := fun k => by
    induction k with
    | zero => intro n; simp [itB, foundB, valB]
    | succ k ih =>
      intro n
      have e1 : foundB p fs n (k + 1) = lastB p fs n :: foundB p fs (restB p fs n) k := by
        unfold foundB
        rw [List.range_succ_eq_map, List.map_cons, List.map_map]
        congr 1
        apply List.map_congr_left
        intro j _
        show lastB p fs (itB p fs (j + 1) n) = lastB p fs (itB p fs j (restB p fs n))
        rw [itB_add j (j := 1)]; rfl
      have e2 : itB p fs (k + 1) n = itB p fs k (restB p fs n) := by rw [itB_add k (j := 1)]; rfl
      have := ih (restB p fs n)
      have hs := h.split n
      rw [e1, e2, List.reverse_cons, valB_snoc, Int.pow_succ, ← Int.mul_assoc, ← Int.add_assoc, ← Int.add_mul, ← this]
      exact hs
  exact key k n
/-- a number that is written -/
theorem stop_zero {n : Int} {k : Nat} (h0 : itB p fs k n = 0) (h1 : ∀ i, i < k → itB p fs i n ≠ 0) : StopB p fs n k := by
  refine ⟨fun i hi => ⟨h1 i hi, fun z => ?_⟩, .inl h0⟩
  obtain ⟨j, hj, e⟩ := mem_metB.mp z
  have a : itB p fs (k - i + j) n = 0 := by rw [itB_add, e, ← itB_add, show k - i + i = k by omega, h0]
  exact h1 _ (by omega) a
theorem valB_cons {f : Int} {r : List Int} : valB p (f :: r) = f * p ^ r.length + valB p r := by
  have : ∀ (r : List Int) (v : Int), r.foldl (fun v f => v * p + f) v = v * p ^ r.length + r.foldl (fun v f => v * p + f) 0 := fun r => by
    induction r with
    | nil => intro v; simp
    | cons a r ih =>
      intro v
      rw [List.foldl_cons, List.foldl_cons, ih, ih (0 * p + a), List.length_cons, Int.pow_succ]
      rw [Int.add_mul, Int.mul_assoc, Int.mul_comm p, Int.zero_mul, Int.zero_add]; omega
  unfold valB
  rw [List.foldl_cons, this]
  simp
theorem val_bound {Q B : Nat} (hp : p.natAbs ≤ Q) (hQ : 2 ≤ Q) : ∀ {r : List Int} {v : Int}, (∀ f ∈ r, f.natAbs ≤ B) → (r.foldl (fun v f => v * p + f) v).natAbs + B ≤ (v.natAbs + B) * Q ^ r.length
  | [], v, _ => by simp
  | f :: r, v, h => by
    have hf := h f (List.mem_cons_self ..)
    have ih := val_bound hp hQ (r := r) (v := v * p + f) fun g hg => h g (List.mem_cons_of_mem _ hg)
    rw [List.foldl_cons, List.length_cons]
    have h1 : (v * p + f).natAbs ≤ v.natAbs * Q + B := by
      have a := Int.natAbs_add_le (v * p) f
      rw [Int.natAbs_mul] at a
      have b := Nat.mul_le_mul_left v.natAbs hp
      omega
    have h2 : v.natAbs * Q + B + B ≤ (v.natAbs + B) * Q := by
      rw [Nat.add_mul]
      have := Nat.mul_le_mul_left B hQ
      omega
    have h3 : ((v * p + f).natAbs + B) * Q ^ r.length ≤ (v.natAbs + B) * Q * Q ^ r.length := Nat.mul_le_mul_right _ (by omega)
    rw [Nat.mul_assoc, ← Nat.pow_succ', Nat.succ_eq_add_one] at h3
    omega
theorem valB_bound {Q B : Nat} (hp : p.natAbs ≤ Q) (hQ : 2 ≤ Q) {r : List Int} (h : ∀ f ∈ r, f.natAbs ≤ B) : (valB p r).natAbs ≤ B * Q ^ r.length := by
  have := val_bound hp hQ (r := r) (v := 0) h
  rw [Int.natAbs_zero, Nat.zero_add] at this
  exact Nat.le_trans (Nat.le_add_right _ _) this
/-- a row told back -/
theorem BaseOk.row_it (h : BaseOk p fs) {r : List Int} (hr : ∀ f ∈ r, f ∈ fs) : ∀ i, i ≤ r.length → itB p fs i (valB p r) = valB p (r.take (r.length - i))
  | 0, _ => by simp [itB]
  | i + 1, hi => by
    show restB p fs (itB p fs i (valB p r)) = _
    rw [h.row_it hr i (by omega)]
    have hlt : r.length - (i + 1) < r.length := by omega
    have e : r.take (r.length - i) = r.take (r.length - (i + 1)) ++ [r[r.length - (i + 1)]] := by rw [List.take_append_getElem]; congr 1; omega
    rw [e, valB_snoc]
    exact (h.snoc (hr _ (List.getElem_mem hlt))).2
theorem BaseOk.row_found (h : BaseOk p fs) {r : List Int} (hr : ∀ f ∈ r, f ∈ fs) : (foundB p fs (valB p r) r.length).reverse = r := by
  refine List.ext_getElem (by simp [foundB]) fun i h1 h2 => ?_
  rw [List.getElem_reverse]
  unfold foundB
  rw [List.getElem_map, List.getElem_range, h.row_it hr _ (by simp; omega)]
  simp only [List.length_map, List.length_range]
  have e : r.take (r.length - (r.length - 1 - i)) = r.take i ++ [r[i]] := by rw [List.take_append_getElem]; congr 1; omega
  rw [e, valB_snoc]
  exact (h.snoc (hr _ (List.getElem_mem h2))).1
theorem BaseOk.zero_it (h : BaseOk p fs) : ∀ i, itB p fs i 0 = 0
  | 0 => rfl
  | i + 1 => by show restB p fs (itB p fs i 0) = 0; rw [h.zero_it i]; exact h.zeroN.2
theorem BaseOk.row_stop (h : BaseOk p fs) {r : List Int} (hr : ∀ f ∈ r, f ∈ fs) (h0 : r.head? ≠ some 0) : StopB p fs (valB p r) r.length ∧ itB p fs r.length (valB p r) = 0 := by
  have hz : itB p fs r.length (valB p r) = 0 := by rw [h.row_it hr _ (Nat.le_refl _), Nat.sub_self]; rfl
  refine ⟨stop_zero hz fun i hi e => ?_, hz⟩
  -- else all that follows is 0
  have h1 : itB p fs (r.length - 1) (valB p r) = 0 := by
    rw [show r.length - 1 = (r.length - 1 - i) + i by omega, itB_add, e]
    exact h.zero_it _
  rw [h.row_it hr _ (by omega), show r.length - (r.length - 1) = 1 by omega] at h1
  cases r with
  | nil => simp at hi
  | cons f r =>
    apply h0
    have : valB p [f] = f := by simp [valB]
    rw [List.take_succ_cons, List.take_zero, this] at h1
    rw [h1]; rfl
end
def dMet (ns : List Int) : List (Key × D) := ns.map fun n => (.inl n, .bl true)
theorem dMet_val {ns : List Int} {x : Int} : (valD (dMet ns) (.inl x)).isSome = decide (x ∈ ns) := by
  unfold valD dMet
  rw [List.find?_map, Option.map_map]
  by_cases c : x ∈ ns
  · rw [decide_eq_true c]
    cases q : ns.find? ((fun kv : Key × D => decide (kv.1 = .inl x)) ∘ fun n => (Sum.inl n, D.bl true)) with
    | none => exact absurd (decide_eq_true rfl) (List.find?_eq_none.mp q x c)
    | some y => rfl
  · rw [decide_eq_false c, Option.isSome_map]
    rw [Bool.eq_false_iff]
    intro z
    obtain ⟨y, hy, ey⟩ := List.find?_isSome.mp z
    have ey := of_decide_eq_true ey
    injection ey with ey
    exact c (ey ▸ hy)
theorem dMet_put {ns : List Int} {x : Int} (h : x ∉ ns) : putD (dMet ns) (.inl x) (.bl true) = dMet (ns ++ [x]) := by
  unfold putD
  rw [if_neg]
  · unfold dMet; rw [List.map_append]; rfl
  · intro z
    obtain ⟨y, hy, ey⟩ := List.any_eq_true.mp z
    obtain ⟨g, hg, rfl⟩ := List.mem_map.mp hy
    have ey := of_decide_eq_true ey
    injection ey with ey
    exact h (ey ▸ hg)
/-- by which figures a number is written, if it is -/
def dSpell (p : Int) (fs : List Int) (n : Int) (k : Nat) : D := if itB p fs k n = 0 then tI (foundB p fs n k).reverse else .non

/-- written_by(base, number); slots: 0 base, 1 number, 2 found, 3 met -/
def b_written_by : SM := (mSeq (mPar 2 3 (mLst mNil) mDic0)
  (mSeq (mWhile (mB (mBin fNe (mVar 1) (mC (.int 0)))) (mSeq (mIf (mB (mDinV false 3 (mVar 1))) (mRet (mC .non)) mNext)
  (mSeq (mDput 3 (mVar 1) (mC (.bl true)))
  (mSeq (mApp 2 (mCall 2 f_last_of (mCons (mVar 0) (mCons (mVar 1) mNil))))
  (mSet 1 (mCall 2 f_rest_of (mCons (mVar 0) (mCons (mVar 1) mNil))))))) [])
  (mRet (mCallB fTuple (mCons (mUn fRev (mVar 2)) mNil)))))
def f_written_by : FM := defM b_written_by [(Str.ofString "base"), (Str.ofString "number"), (Str.ofString "found"), (Str.ofString "met")]
--@use base2 while
theorem written_by_eq {p n : Int} {fs : List Int} {k : Nat} (h : BaseOk p fs) (hs : StopB p fs n k) (hk : k ≤ 100000) : f_written_by [dBase p fs, .int n] = val (.d (dSpell p fs n k)) := by
  have e1 : ∀ x, f_last_of [dBase p fs, .int x] = val (.d (.int (lastB p fs x))) := fun x => last_of_eq h
  have e2 : ∀ x, f_rest_of [dBase p fs, .int x] = val (.d (.int (restB p fs x))) := fun x => rest_of_eq h
  (conv => { lhs; simp -implicitDefEqProofs [l_neSelf, l_eqSelf, key_int, key_str, keyD, defM, initM, tail_mapS, take_mapS, drop_mapS, sl0, slI, lcAll_map, lcAll_rng, forL_map, forL_rng, -List.map_take, -List.map_drop, -List.map_tail, -List.map_reverse, f_written_by, b_written_by] })
  rw [mWhile_run (fun i : Nat => [some (.d (dBase p fs)), some (.d (.int (itB p fs i n))), some (.own ((foundB p fs n i).map .int)), some (.odic (dMet (metB p fs n i)))])
    (fun _ => if itB p fs k n = 0 then nx [some (.d (dBase p fs)), some (.d (.int 0)), some (.own ((foundB p fs n k).map .int)), some (.odic (dMet (metB p fs n k)))] else rt (.d .non)) (fun i => k - i) (fun i => i ≤ k) ?_ 0 (Nat.zero_le _) (by rfl)]
  · unfold dSpell
    by_cases c : itB p fs k n = 0
    · rw [if_pos c, if_pos c]
      simp -implicitDefEqProofs [l_neSelf, l_eqSelf, key_int, key_str, keyD, defM, initM, tail_mapS, take_mapS, drop_mapS, sl0, slI, lcAll_map, lcAll_rng, forL_map, forL_rng, -List.map_take, -List.map_drop, -List.map_tail, -List.map_reverse, List.map_reverse]
    · rw [if_neg c, if_neg c]
      simp -implicitDefEqProofs [l_neSelf, l_eqSelf, key_int, key_str, keyD, defM, initM, tail_mapS, take_mapS, drop_mapS, sl0, slI, lcAll_map, lcAll_rng, forL_map, forL_rng, -List.map_take, -List.map_drop, -List.map_tail, -List.map_reverse]
  · intro i hi
    have hfl : (foundB p fs n i).length < 16777216 := by simp [foundB]; omega
    have hml : (dMet (metB p fs n i)).length < 16777216 := by simp [dMet, metB]; omega
    by_cases c : i < k
    · right
      obtain ⟨h1, h2⟩ := hs.go i c
      have hp := dMet_put h2
      have h2' : (valD (dMet (metB p fs n i)) (.inl (itB p fs i n))).isSome = false := by rw [dMet_val, decide_eq_false h2]
      refine ⟨i + 1, c, by omega, rfl, fun K => ?_⟩
      have hit : itB p fs (i + 1) n = restB p fs (itB p fs i n) := rfl
      rw [foundB_succ, metB_succ, hit]
      generalize itB p fs i n = x at *
      simp -implicitDefEqProofs [l_neSelf, l_eqSelf, key_int, key_str, keyD, defM, initM, tail_mapS, take_mapS, drop_mapS, sl0, slI, lcAll_map, lcAll_rng, forL_map, forL_rng, -List.map_take, -List.map_drop, -List.map_tail, -List.map_reverse, h1, h2', e1, e2, hp, hfl, hml]
    · left
      have e : i = k := by omega
      subst e
      intro K
      by_cases z : itB p fs i n = 0
      · rw [if_pos z, z]
        simp -implicitDefEqProofs [l_neSelf, l_eqSelf, key_int, key_str, keyD, defM, initM, tail_mapS, take_mapS, drop_mapS, sl0, slI, lcAll_map, lcAll_rng, forL_map, forL_rng, -List.map_take, -List.map_drop, -List.map_tail, -List.map_reverse]
      · have hm : itB p fs i n ∈ metB p fs n i := hs.stop.resolve_left z
        have h2' : (valD (dMet (metB p fs n i)) (.inl (itB p fs i n))).isSome = true := by rw [dMet_val, decide_eq_true hm]
        rw [if_neg z]
        generalize itB p fs i n = x at *
        simp -implicitDefEqProofs [l_neSelf, l_eqSelf, key_int, key_str, keyD, defM, initM, tail_mapS, take_mapS, drop_mapS, sl0, slI, lcAll_map, lcAll_rng, forL_map, forL_rng, -List.map_take, -List.map_drop, -List.map_tail, -List.map_reverse, z, h2']

--@use base2 while
/-! rounds -/
section
variable {p : Int} {fs ms : List Int} {n : Int} {k : Nat}
/-- the turn that is the last, with numbers met before -/
structure StopM (p : Int) (fs ms : List Int) (n : Int) (k : Nat) : Prop where
  go : ∀ i, i < k → itB p fs i n ≠ 0 ∧ itB p fs i n ∉ ms ++ metB p fs n i
  stop : itB p fs k n = 0 ∨ itB p fs k n ∈ ms ++ metB p fs n k
theorem StopM.uniq {k k' : Nat} (h : StopM p fs ms n k) (h' : StopM p fs ms n k') : k = k' := by
  rcases Nat.lt_trichotomy k k' with c | c | c
  · obtain ⟨a, b⟩ := h'.go k c
    exact (h.stop.elim a b).elim
  · exact c
  · obtain ⟨a, b⟩ := h.go k' c
    exact (h'.stop.elim a b).elim
theorem BaseOk.stopM_ex (h : BaseOk p fs) {b : Nat} (hn : n.natAbs ≤ 2 ^ b) (ms : List Int) : ∃ k, k ≤ b + 20004 ∧ StopM p fs ms n k := by
  obtain ⟨k0, hk0, hs⟩ := h.stop_ex hn
  have : ∀ m, m ≤ k0 → (∃ k, k ≤ m ∧ StopM p fs ms n k) ∨ ∀ i, i ≤ m → itB p fs i n ≠ 0 ∧ itB p fs i n ∉ ms ++ metB p fs n i := fun m => by
    induction m with
    | zero =>
      intro _
      by_cases c : itB p fs 0 n = 0 ∨ itB p fs 0 n ∈ ms ++ metB p fs n 0
      · exact .inl ⟨0, Nat.le_refl _, fun i hi => absurd hi (Nat.not_lt_zero _), c⟩
      · rw [not_or] at c
        exact .inr fun i hi => by rw [Nat.le_zero.mp hi]; exact c
    | succ m ih =>
      intro hm
      rcases ih (by omega) with ⟨k, a, b⟩ | q
      · exact .inl ⟨k, by omega, b⟩
      · by_cases c : itB p fs (m + 1) n = 0 ∨ itB p fs (m + 1) n ∈ ms ++ metB p fs n (m + 1)
        · exact .inl ⟨m + 1, Nat.le_refl _, fun i hi => q i (by omega), c⟩
        · rw [not_or] at c
          refine .inr fun i hi => ?_
          by_cases z : i = m + 1
          · rw [z]; exact c
          · exact q i (by omega)
  rcases this k0 (Nat.le_refl _) with ⟨k, a, b⟩ | q
  · exact ⟨k, by omega, b⟩
  · obtain ⟨a, b⟩ := q k0 (Nat.le_refl _)
    exact (hs.stop.elim a fun z => b (List.mem_append_right _ z)).elim
/-- the path: each number with its place -/
def dPathF (i : Nat) : List Int → List (Key × D)
  | [] => []
  | x :: xs => (.inl x, .int (i : Int)) :: dPathF (i + 1) xs
abbrev dPath (xs : List Int) : List (Key × D) := dPathF 0 xs
theorem dPathF_len : ∀ {i : Nat} {xs : List Int}, (dPathF i xs).length = xs.length
  | _, [] => rfl
  | _, _ :: _ => congrArg (· + 1) dPathF_len
theorem dPathF_keys : ∀ {i : Nat} {xs : List Int}, (dPathF i xs).map (fun kv => keyD kv.1) = xs.map .int
  | _, [] => rfl
  | _, x :: xs => by rw [List.map_cons, ← dPathF_keys (i := _ + 1) (xs := xs)]; rfl
theorem dPathF_snoc : ∀ {i : Nat} {xs : List Int} {x : Int}, dPathF i (xs ++ [x]) = dPathF i xs ++ [(.inl x, .int ((i + xs.length : Nat) : Int))]
  | i, [], x => by simp [dPathF]
  | i, y :: xs, x => by
    show _ :: dPathF (i + 1) (xs ++ [x]) = _
    rw [dPathF_snoc, List.length_cons, show i + 1 + xs.length = i + (xs.length + 1) by omega]; rfl
theorem dPathF_val : ∀ {i : Nat} {xs : List Int} {x : Int}, valD (dPathF i xs) (.inl x) = if x ∈ xs then some (.int ((i + xs.idxOf x : Nat) : Int)) else none
  | _, [], _ => rfl
  | i, y :: xs, x => by
    by_cases c : y = x
    · subst c
      rw [if_pos (List.mem_cons_self ..)]
      simp [valD, dPathF]
    · have h := dPathF_val (i := i + 1) (xs := xs) (x := x)
      have e : valD (dPathF i (y :: xs)) (.inl x) = valD (dPathF (i + 1) xs) (.inl x) := by
        unfold valD
        show (List.find? _ ((Sum.inl y, D.int (i : Int)) :: dPathF (i + 1) xs)).map _ = _
        rw [List.find?_cons_of_neg (by simpa using c)]
      rw [e, h]
      have c' : ¬ x = y := fun z => c z.symm
      by_cases m : x ∈ xs
      · rw [if_pos m, if_pos (List.mem_cons_of_mem _ m), List.idxOf_cons, beq_eq_false_iff_ne.mpr c]
        show some (D.int ((i + 1 + xs.idxOf x : Nat) : Int)) = some (D.int ((i + (xs.idxOf x + 1) : Nat) : Int))
        rw [show i + 1 + xs.idxOf x = i + (xs.idxOf x + 1) by omega]
      · rw [if_neg m, if_neg (by rw [List.mem_cons, not_or]; exact ⟨c', m⟩)]
theorem dPath_put {xs : List Int} {x : Int} (h : x ∉ xs) : putD (dPath xs) (.inl x) (.int (xs.length : Int)) = dPath (xs ++ [x]) := by
  unfold putD dPath
  rw [if_neg, dPathF_snoc, Nat.zero_add]
  intro z
  have : (valD (dPathF 0 xs) (.inl x)).isSome = true := by
    unfold valD
    rw [Option.isSome_map, List.find?_isSome]
    obtain ⟨y, hy, ey⟩ := List.any_eq_true.mp z
    exact ⟨y, hy, ey⟩
  rw [dPathF_val, if_neg h] at this
  cases this
/-- the round that a number leads to -/
def roundM (p : Int) (fs : List Int) (n : Int) (k : Nat) : Option (List Int) := if itB p fs k n ∈ metB p fs n k then some ((metB p fs n k).drop ((metB p fs n k).idxOf (itB p fs k n))) else none
def roundS (o : Option (List Int)) : S := match o with
  | some r => .own (r.map .int)
  | none => .d .non
theorem dMet_none {ns : List Int} {x : Int} (h : x ∉ ns) : valD (dMet ns) (.inl x) = none := by
  have := dMet_val (ns := ns) (x := x)
  rw [decide_eq_false h] at this
  exact Option.isSome_eq_false_iff.mp this |> Option.isNone_iff_eq_none.mp
theorem dMet_some {ns : List Int} {x : Int} (h : x ∈ ns) : ¬ valD (dMet ns) (.inl x) = none := by
  intro z
  have := dMet_val (ns := ns) (x := x)
  rw [decide_eq_true h, z] at this
  cases this
theorem l_dgetV {kvs : List (Key × D)} {x : Int} {v : D} (h : valD kvs (.inl x) = some v) : M.lift (dGet (.dic kvs) (.int x)) = M.one v := lift_one fun R => by
  show (∃ v, valD kvs (.inl x) = some v ∧ R v) = R v
  rw [h]
  exact propext ⟨fun ⟨w, e, r⟩ => by cases e; exact r, fun r => ⟨v, rfl, r⟩⟩
theorem dPathF_dropK {i j : Nat} {xs : List Int} : ((dPathF i xs).drop j).map (fun kv => (match kv.1 with | .inl i => D.int i | .inr s => D.str s)) = (xs.drop j).map .int := by
  rw [List.map_drop, List.map_drop]
  congr 1
  exact dPathF_keys
/-- begun with the least one -/
def begL (r : List Int) : List Int := r.drop (r.idxOf (minL r)) ++ r.take (r.idxOf (minL r))
def stopK (p : Int) (fs ms : List Int) (n : Int) : Nat := ((List.range 30000).find? fun k => decide (itB p fs k n = 0) || decide (itB p fs k n ∈ ms ++ metB p fs n k)).getD 0
theorem find_range {m : Nat} {q : Nat → Bool} {k : Nat} (hk : k < m) (h : q k = true) (hn : ∀ i, i < k → q i = false) : (List.range m).find? q = some k := by
  rw [List.find?_eq_some_iff_getElem]
  refine ⟨h, k, by rw [List.length_range]; exact hk, List.getElem_range _, fun j hj => ?_⟩
  rw [List.getElem_range, hn j hj]; rfl
theorem stopK_eq (h : StopM p fs ms n k) (hk : k < 30000) : stopK p fs ms n = k := by
  unfold stopK
  rw [find_range hk (by rw [Bool.or_eq_true, decide_eq_true_iff, decide_eq_true_iff]; exact h.stop) fun i hi => by
    obtain ⟨a, b⟩ := h.go i hi
    rw [decide_eq_false a, decide_eq_false b]; rfl]
  rfl
/-- a turn of the walk over the numbers -/
def stepR (p : Int) (fs : List Int) (st : List Int × List (List Int)) (n : Int) : List Int × List (List Int) :=
  (st.1 ++ metB p fs n (stopK p fs st.1 n), match roundM p fs n (stopK p fs st.1 n) with
    | some r => st.2 ++ [begL r]
    | none => st.2)
def edgeB (p : Int) (fs : List Int) : Int := maxL (fs.map fun f => (f.natAbs : Int)) / ((p.natAbs : Int) - 1)
def foldR (p : Int) (fs : List Int) (ns : List Int) : List Int × List (List Int) := ns.foldl (stepR p fs) ([], [])
def roundsB (p : Int) (fs : List Int) : List (List Int) := sortT (foldR p fs (rgI (-edgeB p fs) (edgeB p fs + 1))).2
structure InvR (p : Int) (fs : List Int) (st : List Int × List (List Int)) : Prop where
  bnd : ∀ x ∈ st.1, x.natAbs ≤ 10001
  nd : st.1.Nodup
  ne : ∀ r ∈ st.2, r ≠ []
  fl : st.2.length ≤ st.1.length
theorem InvR.len {st : List Int × List (List Int)} (h : InvR p fs st) : st.1.length ≤ 20003 := by
  have := nodup_le h.nd (m := (List.range 20003).map fun (j : Nat) => (j : Int) - 10001) fun x hx => by
    have := h.bnd x hx
    exact List.mem_map.mpr ⟨(x + 10001).toNat, List.mem_range.mpr (by omega), by omega⟩
  rwa [List.length_map, List.length_range] at this
theorem begL_ne {r : List Int} (h : r ≠ []) : begL r ≠ [] := by
  intro z
  have : (begL r).length = r.length := by
    unfold begL
    rw [List.length_append, List.length_drop, List.length_take]
    have := List.idxOf_le_length (a := minL r) (l := r)
    omega
  rw [z] at this
  exact h (List.eq_nil_of_length_eq_zero this.symm)
theorem roundM_ne {r : List Int} (h : roundM p fs n k = some r) : r ≠ [] ∧ r.length ≤ k := by
  unfold roundM at h
  split at h
  · rename_i c
    cases h
    have := List.idxOf_lt_length_iff.mpr c
    have hl : (metB p fs n k).length = k := by simp [metB]
    refine ⟨fun z => ?_, by rw [List.length_drop]; omega⟩
    have := congrArg List.length z
    rw [List.length_drop, List.length_nil] at this
    omega
  · cases h
theorem stopK_ok (h : BaseOk p fs) (hn : n.natAbs ≤ 10001) (ms : List Int) : StopM p fs ms n (stopK p fs ms n) ∧ stopK p fs ms n < 30000 := by
  obtain ⟨k, hk, hs⟩ := h.stopM_ex (n := n) (b := 14) (by omega) ms
  rw [stopK_eq hs (by omega)]
  exact ⟨hs, by omega⟩
theorem StopM.nodup (h : StopM p fs ms n k) (hm : ms.Nodup) : ∀ i, i ≤ k → (ms ++ metB p fs n i).Nodup
  | 0, _ => by simpa [metB] using hm
  | i + 1, hi => by
    rw [metB_succ, ← List.append_assoc, List.nodup_append]
    refine ⟨h.nodup hm i (by omega), by simp, fun a ha b hb => ?_⟩
    simp at hb
    subst hb
    rintro rfl
    exact (h.go i (by omega)).2 ha
theorem InvR.step (hb : BaseOk p fs) {st : List Int × List (List Int)} (h : InvR p fs st) (hn : n.natAbs ≤ 10001) : InvR p fs (stepR p fs st n) := by
  obtain ⟨hs, hk⟩ := stopK_ok hb hn st.1
  refine ⟨fun x hx => ?_, hs.nodup h.nd _ (Nat.le_refl _), fun r hr => ?_, ?_⟩
  · rcases List.mem_append.mp hx with z | z
    · exact h.bnd x z
    · obtain ⟨j, _, rfl⟩ := mem_metB.mp z
      exact hb.small2 hn j
  · unfold stepR at hr
    dsimp only at hr
    split at hr
    · rename_i r' e
      rcases List.mem_append.mp hr with z | z
      · exact h.ne r z
      · rw [List.mem_singleton.mp z]
        exact begL_ne (roundM_ne e).1
    · exact h.ne r hr
  · have hf := h.fl
    have hl : (metB p fs n (stopK p fs st.1 n)).length = stopK p fs st.1 n := by simp [metB]
    unfold stepR
    dsimp only
    rw [List.length_append, hl]
    split
    · rename_i r e
      obtain ⟨a, b⟩ := roundM_ne e
      have := List.length_pos_iff.mpr a
      rw [List.length_append, List.length_singleton]
      omega
    · omega
theorem InvR.fold (hb : BaseOk p fs) : ∀ {ns : List Int}, (∀ x ∈ ns, x.natAbs ≤ 10001) → ∀ {st : List Int × List (List Int)}, InvR p fs st → InvR p fs (ns.foldl (stepR p fs) st)
  | [], _, _, h => h
  | x :: ns, hx, _, h => InvR.fold hb (fun y hy => hx y (List.mem_cons_of_mem _ hy)) (h.step hb (hx x (List.mem_cons_self ..)))
theorem InvR.start : InvR p fs ([], []) := ⟨by simp, List.nodup_nil, by simp, Nat.le_refl _⟩
theorem BaseOk.max_bnd (h : BaseOk p fs) : 0 ≤ maxL (fs.map fun f => (f.natAbs : Int)) ∧ maxL (fs.map fun f => (f.natAbs : Int)) ≤ 10000 := by
  have hne : fs ≠ [] := by intro z; have := h.zero; rw [z] at this; cases this
  obtain ⟨h1, h2⟩ := maxL_spec (l := fs.map fun f => (f.natAbs : Int)) (by intro z; exact hne (List.map_eq_nil_iff.mp z))
  obtain ⟨f, hf, e⟩ := List.mem_map.mp h1
  have hb := h.bnd f hf
  omega
theorem edge_bnd (h : BaseOk p fs) : 0 ≤ edgeB p fs ∧ edgeB p fs ≤ 10000 := by
  have hq := h.q
  have hne : fs ≠ [] := by intro z; have := h.zero; rw [z] at this; cases this
  obtain ⟨h1, h2⟩ := maxL_spec (l := fs.map fun f => (f.natAbs : Int)) (by intro z; exact hne (List.map_eq_nil_iff.mp z))
  obtain ⟨f, hf, e⟩ := List.mem_map.mp h1
  have hb := h.bnd f hf
  unfold edgeB
  generalize maxL (fs.map fun f => (f.natAbs : Int)) = m at *
  have h3 : 0 ≤ m / ((p.natAbs : Int) - 1) := Int.ediv_nonneg (by omega) (by omega)
  have h4 : m / ((p.natAbs : Int) - 1) ≤ m := Int.ediv_le_self _ (by omega)
  omega
end

/-- round_from(base, number, met); slots: 0 base, 1 number, 2 met, 3 path -/
def b_round_from : SM := (mSeq (mSet 3 mDic0)
  (mSeq (mWhile (mAnd (mB (mBin fNe (mVar 1) (mC (.int 0)))) (mB (mDinC true 2 (mVar 1)))) (mSeq (mDputC 2 (mVar 1) (mC (.bl true)))
  (mSeq (mDput 3 (mVar 1) (mLenDV 3))
  (mSet 1 (mCall 2 f_rest_of (mCons (mVar 0) (mCons (mVar 1) mNil)))))) [])
  (mSeq (mIf (mB (mDinV true 3 (mVar 1))) (mRet (mC .non)) mNext)
  (mRet (mSl (mCallB fListD (mCons (mVar 3) mNil)) (mPart (mDget 3 (mVar 1))) mNoP)))))
def f_round_from : FM := defM b_round_from [(Str.ofString "base"), (Str.ofString "number"), (Str.ofString "met"), (Str.ofString "path")]
--@use round
theorem round_from_eq {p n : Int} {fs ms : List Int} {k : Nat} (h : BaseOk p fs) (hs : StopM p fs ms n k) (hk : ms.length + k ≤ 1000000) : withD f_round_from [dBase p fs, .int n] (dMet ms) = M.one (roundS (roundM p fs n k), dMet (ms ++ metB p fs n k)) := by
  have e2 : ∀ x, f_rest_of [dBase p fs, .int x] = val (.d (.int (restB p fs x))) := fun x => rest_of_eq h
  refine withD_one (fun μ P => ?_) ?_ ?_
  · simp -implicitDefEqProofs [l_neSelf, l_eqSelf, key_int, key_str, keyD, defM, initM, tail_mapS, take_mapS, drop_mapS, sl0, slI, lcAll_map, lcAll_rng, forL_map, forL_rng, -List.map_take, -List.map_drop, -List.map_tail, -List.map_reverse, f_round_from, b_round_from]
    rw [wp_out, wp_bN, mWhile_runM (fun i : Nat => [some (.d (dBase p fs)), some (.d (.int (itB p fs i n))), some (.d (.cell μ.length)), some (.odic (dPath (metB p fs n i)))]) (fun i => μ ++ [dCell (dMet (ms ++ metB p fs n i))])
      (fun _ P => P (.nx, [some (.d (dBase p fs)), some (.d (.int (itB p fs k n))), some (.d (.cell μ.length)), some (.odic (dPath (metB p fs n k)))]) (μ ++ [dCell (dMet (ms ++ metB p fs n k))])) (fun i => k - i) (fun i => i ≤ k) ?_ 0 (Nat.zero_le _) (by rfl) (by rw [show metB p fs n 0 = [] from rfl, List.append_nil])]
    · dsimp only
      by_cases c : itB p fs k n ∈ metB p fs n k
      · have h1 : valD (dPath (metB p fs n k)) (.inl (itB p fs k n)) = some (.int ((metB p fs n k).idxOf (itB p fs k n) : Nat)) := by rw [dPathF_val, if_pos c, Nat.zero_add]
        have h2 : roundM p fs n k = some ((metB p fs n k).drop ((metB p fs n k).idxOf (itB p fs k n))) := if_pos c
        rw [h2]
        simp -implicitDefEqProofs [l_neSelf, l_eqSelf, key_int, key_str, keyD, defM, initM, tail_mapS, take_mapS, drop_mapS, sl0, slI, lcAll_map, lcAll_rng, forL_map, forL_rng, -List.map_take, -List.map_drop, -List.map_tail, -List.map_reverse, l_dgetV h1, h1, roundS]
        exact iff_of_eq (congrArg (fun z => P (Oc.v (S.own z)) (μ ++ [dCell (dMet (ms ++ metB p fs n k))])) dPathF_dropK)
      · have h1 : valD (dPath (metB p fs n k)) (.inl (itB p fs k n)) = none := by rw [dPathF_val, if_neg c]
        have h2 : roundM p fs n k = none := if_neg c
        rw [h2]
        simp -implicitDefEqProofs [l_neSelf, l_eqSelf, key_int, key_str, keyD, defM, initM, tail_mapS, take_mapS, drop_mapS, sl0, slI, lcAll_map, lcAll_rng, forL_map, forL_rng, -List.map_take, -List.map_drop, -List.map_tail, -List.map_reverse, h1, roundS]
    · intro i hi
      have hpl : (dPath (metB p fs n i)).length < 16777216 := by rw [dPathF_len]; simp [metB]; omega
      have hml : (dMet (ms ++ metB p fs n i)).length < 16777216 := by simp [dMet, metB]; omega
      have hmb : (metB p fs n i).length < 16777216 := by simp [metB]; omega
      by_cases c : i < k
      · right
        obtain ⟨h1, h2⟩ := hs.go i c
        have h2m : itB p fs i n ∉ metB p fs n i := fun z => h2 (List.mem_append_right _ z)
        have hp := dMet_put h2
        have hp2 := dPath_put h2m
        have h2' : valD (dMet (ms ++ metB p fs n i)) (.inl (itB p fs i n)) = none := dMet_none h2
        have hpe : (dPath (metB p fs n i)).length = (metB p fs n i).length := dPathF_len
        refine ⟨i + 1, c, by omega, rfl, fun K P => ?_⟩
        have hit : itB p fs (i + 1) n = restB p fs (itB p fs i n) := rfl
        rw [metB_succ, ← List.append_assoc, hit]
        generalize itB p fs i n = x at *
        simp -implicitDefEqProofs [l_neSelf, l_eqSelf, key_int, key_str, keyD, defM, initM, tail_mapS, take_mapS, drop_mapS, sl0, slI, lcAll_map, lcAll_rng, forL_map, forL_rng, -List.map_take, -List.map_drop, -List.map_tail, -List.map_reverse, h1, h2', e2, hp, hp2, hpl, hml, hpe, hmb, ← List.append_assoc]
      · left
        have e : i = k := by omega
        subst e
        intro K P
        by_cases z : itB p fs i n = 0
        · rw [z]
          simp -implicitDefEqProofs [l_neSelf, l_eqSelf, key_int, key_str, keyD, defM, initM, tail_mapS, take_mapS, drop_mapS, sl0, slI, lcAll_map, lcAll_rng, forL_map, forL_rng, -List.map_take, -List.map_drop, -List.map_tail, -List.map_reverse]
        · have hm : itB p fs i n ∈ ms ++ metB p fs n i := hs.stop.resolve_left z
          have h2' : ¬ valD (dMet (ms ++ metB p fs n i)) (.inl (itB p fs i n)) = none := dMet_some hm
          generalize itB p fs i n = x at *
          simp -implicitDefEqProofs [l_neSelf, l_eqSelf, key_int, key_str, keyD, defM, initM, tail_mapS, take_mapS, drop_mapS, sl0, slI, lcAll_map, lcAll_rng, forL_map, forL_rng, -List.map_take, -List.map_drop, -List.map_tail, -List.map_reverse, z, h2']
  · unfold roundS
    split
    · intro d hd
      obtain ⟨x, _, rfl⟩ := List.mem_map.mp hd
      rfl
    · rfl
  · intro d hd
    obtain ⟨x, _, rfl⟩ := List.mem_map.mp hd
    rfl

/-- begun_least(numbers); slots: 0 numbers, 1 at -/
def b_begun_least : SM := (mSeq (mSet 1 (mIdxV 0 (mCallB fMinL (mCons (mVar 0) mNil))))
  (mRet (mCallB fTuple (mCons (mBin fAdd (mSl (mVar 0) (mPart (mVar 1)) mNoP) (mSl (mVar 0) mNoP (mPart (mVar 1)))) mNil))))
def f_begun_least : FM := defM b_begun_least [(Str.ofString "numbers"), (Str.ofString "at")]
--@use round
/-- a round, begun with its least integer -/
theorem begun_least_eq {r : List Int} (h : r ≠ []) (hl : r.length ≤ 1000000) : f_begun_least [.lst (r.map .int)] = val (.d (tI (begL r))) := by
  have h0 : 0 < r.length := List.length_pos_iff.mpr h
  have hm : minL r ∈ r := (minL_spec h).1
  (conv => { lhs; simp -implicitDefEqProofs [l_neSelf, l_eqSelf, key_int, key_str, keyD, defM, initM, tail_mapS, take_mapS, drop_mapS, sl0, slI, lcAll_map, lcAll_rng, forL_map, forL_rng, -List.map_take, -List.map_drop, -List.map_tail, -List.map_reverse, f_begun_least, b_begun_least] })
  have hi : r.idxOf (minL r) < r.length := List.idxOf_lt_length_iff.mpr hm
  rw [req_of ⟨⟨h0, hm⟩, by omega⟩, ← List.map_append]
  rfl

/-- rounds_of(base); slots: 0 base, 1 edge, 2 found, 3 met, 4 number, 5 numbers, 6 figure -/
def b_rounds_of : SM := (mSeq (mSet 1 (mBin fDiv (mCallB fMaxL (mCons (mLc (mItems (mFld (Str.ofString "Base") (Str.ofString "signs") (mVar 0))) (fName 6) mYes (mCallB fAbs (mCons (mVar 6) mNil)) [6]) mNil)) (mBin fSub (mCallB fAbs (mCons (mFld (Str.ofString "Base") (Str.ofString "power") (mVar 0)) mNil)) (mC (.int 1)))))
  (mSeq (mPar 2 3 (mLst mNil) mDic0)
  (mSeq (mFor (mRng rg2 (mCons (mUn fNeg (mVar 1)) (mCons (mBin fAdd (mVar 1) (mC (.int 1))) mNil))) (fName 4) (mSeq (mSet 5 (mCallO 3 f_round_from (mVar 0) (mVar 4)))
  (mIf (mB (mUn fIsn (mVar 5))) (mApp 2 (mCall 1 f_begun_least (mCons (mVar 5) mNil))) mNext)) [4, 5])
  (mRet (mCallB fTuple (mCons (mCallB fSortedA (mCons (mVar 2) mNil)) mNil))))))
def f_rounds_of : FM := defM b_rounds_of [(Str.ofString "base"), (Str.ofString "edge"), (Str.ofString "found"), (Str.ofString "met"), (Str.ofString "number"), (Str.ofString "numbers"), (Str.ofString "figure")]
--@use round
theorem rounds_of_eq {p : Int} {fs : List Int} (h : BaseOk p fs) : f_rounds_of [dBase p fs] = val (.d (tL (roundsB p fs))) := by
  obtain ⟨e0, e1⟩ := edge_bnd h
  have hq := h.q
  have hl : fs.length = p.natAbs := h.len
  have hl0 : 0 < fs.length := by omega
  have key : ∀ st n, InvR p fs st → n.natAbs ≤ 10001 → withD f_round_from [dBase p fs, .int n] (dMet st.1) = M.one (roundS (roundM p fs n (stopK p fs st.1 n)), dMet (stepR p fs st n).1) := fun st n hi hn => by
    obtain ⟨hs, hk⟩ := stopK_ok h hn st.1
    have := hi.len
    exact round_from_eq h hs (by omega)
  (conv => { lhs; simp -implicitDefEqProofs [l_neSelf, l_eqSelf, key_int, key_str, keyD, defM, initM, tail_mapS, take_mapS, drop_mapS, sl0, slI, lcAll_map, lcAll_rng, forL_map, forL_rng, -List.map_take, -List.map_drop, -List.map_tail, -List.map_reverse, f_rounds_of, b_rounds_of] })
  have ef : (fun x : Int => if x < 0 then -x else x) = fun x => (x.natAbs : Int) := by funext x; split <;> omega
  have ep : (if p < 0 then -p else p) = (p.natAbs : Int) := by split <;> omega
  have em := h.max_bnd
  rw [ef, ep]
  have ee : (maxL (fs.map fun x => (x.natAbs : Int))).fdiv ((p.natAbs : Int) - 1) = edgeB p fs := Int.fdiv_eq_ediv_of_nonneg _ (by omega)
  rw [ee, req_of ⟨⟨⟨by omega, hl0⟩, divOk_n (by omega) (by omega)⟩, by omega, by omega, by omega, by omega⟩]
  have inv : ∀ (pre : List Nat) (a : Nat) (post : List Nat), List.range (edgeB p fs + 1 + edgeB p fs).toNat = pre ++ a :: post → InvR p fs (pre.foldl (fun st (i : Nat) => stepR p fs st (-edgeB p fs + (i : Int))) ([], [])) ∧ (-edgeB p fs + (a : Int)).natAbs ≤ 10001 := fun pre a post e => by
    obtain ⟨_, ha⟩ := range_split e
    refine ⟨?_, by omega⟩
    rw [← List.foldl_map (f := fun i : Nat => -edgeB p fs + (i : Int)) (g := stepR p fs)]
    refine InvR.fold h (fun x hx => ?_) .start
    obtain ⟨i, hi, rfl⟩ := List.mem_map.mp hx
    have : i ∈ List.range (edgeB p fs + 1 + edgeB p fs).toNat := by rw [e]; exact List.mem_append_left _ hi
    have := List.mem_range.mp this
    omega
  rw [forL_endP (fun st : List Int × List (List Int) => [some (.d (dBase p fs)), some (.d (.int (edgeB p fs))), some (.own (st.2.map tI)), some (.odic (dMet st.1)), none, none, none]) (fun st (i : Nat) => stepR p fs st (-edgeB p fs + (i : Int))) ([], []) (by rfl)]
  · have hi : InvR p fs (foldR p fs (rgI (-edgeB p fs) (edgeB p fs + 1))) := InvR.fold h (fun x hx => by
      obtain ⟨i, hi, rfl⟩ := List.mem_map.mp hx
      have := List.mem_range.mp hi
      omega) .start
    have ef : (List.range (edgeB p fs + 1 + edgeB p fs).toNat).foldl (fun st (i : Nat) => stepR p fs st (-edgeB p fs + (i : Int))) ([], []) = foldR p fs (rgI (-edgeB p fs) (edgeB p fs + 1)) := by
      unfold foldR rgI
      rw [List.foldl_map, show edgeB p fs + 1 - -edgeB p fs = edgeB p fs + 1 + edgeB p fs by omega]
    rw [ef]
    unfold roundsB
    generalize foldR p fs (rgI (-edgeB p fs) (edgeB p fs + 1)) = st at *
    have hn : ∀ k ∈ st.2, k ≠ [] := hi.ne
    simp -implicitDefEqProofs [l_neSelf, l_eqSelf, key_int, key_str, keyD, defM, initM, tail_mapS, take_mapS, drop_mapS, sl0, slI, lcAll_map, lcAll_rng, forL_map, forL_rng, -List.map_take, -List.map_drop, -List.map_tail, -List.map_reverse]
    exact req_of hn
  · intro pre a post e
    obtain ⟨hi, ha⟩ := inv pre a post e
    have k1 := key _ _ hi ha
    have hfl := Nat.lt_of_le_of_lt (Nat.le_trans hi.fl hi.len) (by decide : 20003 < 16777216)
    obtain ⟨hs, hk⟩ := stopK_ok h ha (pre.foldl (fun st (i : Nat) => stepR p fs st (-edgeB p fs + (i : Int))) ([], [])).1
    generalize pre.foldl (fun st (i : Nat) => stepR p fs st (-edgeB p fs + (i : Int))) ([], []) = st at *
    generalize -edgeB p fs + (a : Int) = n at *
    have e2 : (stepR p fs st n).2 = match roundM p fs n (stopK p fs st.1 n) with
      | some r => st.2 ++ [begL r]
      | none => st.2 := rfl
    rw [e2]
    generalize (stepR p fs st n).1 = ms at *
    cases c : roundM p fs n (stopK p fs st.1 n) with
    | none =>
      rw [c] at k1
      simp -implicitDefEqProofs [l_neSelf, l_eqSelf, key_int, key_str, keyD, defM, initM, tail_mapS, take_mapS, drop_mapS, sl0, slI, lcAll_map, lcAll_rng, forL_map, forL_rng, -List.map_take, -List.map_drop, -List.map_tail, -List.map_reverse, k1, roundS]
    | some r =>
      rw [c] at k1
      obtain ⟨r1, r2⟩ := roundM_ne c
      have b1 : f_begun_least [.lst (r.map .int)] = val (.d (tI (begL r))) := begun_least_eq r1 (by omega)
      simp -implicitDefEqProofs [l_neSelf, l_eqSelf, key_int, key_str, keyD, defM, initM, tail_mapS, take_mapS, drop_mapS, sl0, slI, lcAll_map, lcAll_rng, forL_map, forL_rng, -List.map_take, -List.map_drop, -List.map_tail, -List.map_reverse, k1, roundS, b1]
      exact req_of hfl

/-- Base_init(self, number, figures); slots: 0 self, 1 number, 2 figures, 3 figure -/
def b_Base_init : SM := (mSeq (mIf (mAnd (mNot (mB (mCall 3 f_is_within (mCons (mVar 1) (mCons (mC (.int 2)) (mCons (mC (.int 40)) mNil)))))) (mNot (mB (mCall 3 f_is_within (mCons (mVar 1) (mCons (mUn fNeg (mC (.int 40))) (mCons (mUn fNeg (mC (.int 2))) mNil))))))) (mRaise1 (Str.ofString "InvalidBase") (Str.ofString "given") (mVar 1)) mNext)
  (mSeq (mDrop (mCall 2 f_check_figures (mCons (mVar 2) (mCons (mCallB fAbs (mCons (mVar 1) mNil)) mNil))))
  (mSeq (mStF (Str.ofString "Base") (Str.ofString "power") 0 (mVar 1))
  (mSeq (mStF (Str.ofString "Base") (Str.ofString "signs") 0 (mVar 2))
  (mStF (Str.ofString "Base") (Str.ofString "by_rest") 0 (mDc (mItems (mVar 2)) (fName 3) mYes (mBin fMod (mVar 3) (mCallB fAbs (mCons (mVar 1) mNil))) (mVar 3) [3]))))))
def f_Base_init : FM := initM b_Base_init [(Str.ofString "self"), (Str.ofString "number"), (Str.ofString "figures"), (Str.ofString "figure")] (Str.ofString "Base")
theorem absJ {p : Int} : (if p < 0 then -p else p) = (p.natAbs : Int) := by split <;> omega
theorem puts_rest {p : Int} {fs : List Int} (h : BaseOk p fs) : putsD (fs.map fun f => D.tup [.int (f % (p.natAbs : Int)), .int f]) = dI (restD (p.natAbs : Int) fs) := by
  unfold putsD
  rw [List.foldl_map]
  have key : ∀ (post pre : List Int), fs = pre ++ post → post.foldl (fun m f => putE m (D.tup [.int (f % (p.natAbs : Int)), .int f])) (dI (restD (p.natAbs : Int) pre)) = dI (restD (p.natAbs : Int) fs) := by
    intro post
    induction post with
    | nil => intro pre e; rw [List.foldl_nil, e, List.append_nil]
    | cons f post ih =>
      intro pre e
      rw [List.foldl_cons]
      have : putE (dI (restD (p.natAbs : Int) pre)) (D.tup [.int (f % (p.natAbs : Int)), .int f]) = dI (restD (p.natAbs : Int) (pre ++ [f])) := by
        rw [← put_rest h e, ← putD_I]; rfl
      rw [this]
      exact ih (pre ++ [f]) (by rw [e]; simp)
  exact key fs [] rfl
theorem Base_init_eq {p : Int} {fs : List Int} (h : BaseOk p fs) : f_Base_init [.int p, tI fs] = val (.d (dBase p fs)) := by
  have hq := h.q
  have hp := h.p2
  have e1 := check_figures_eq h
  have hlen := h.len
  have hpr := puts_rest h
  have hfm : ∀ x : Int, x.fmod (p.natAbs : Int) = x % (p.natAbs : Int) := fun x => Int.fmod_eq_emod_of_nonneg _ (by omega)
  have c1 : (2 ≤ p → 40 < p) → (-40 ≤ p ∧ p ≤ -2) := by omega
  have q0 : ¬ p = 0 := by omega
  rcases hp with ⟨p1, p2⟩ | ⟨p1, p2⟩
  · (conv => { lhs; simp -implicitDefEqProofs [l_neSelf, l_eqSelf, key_int, key_str, keyD, defM, initM, tail_mapS, take_mapS, drop_mapS, sl0, slI, lcAll_map, lcAll_rng, forL_map, forL_rng, -List.map_take, -List.map_drop, -List.map_tail, -List.map_reverse, f_Base_init, b_Base_init, absJ, e1, p1, p2, hfm] })
    rw [req_of ⟨by omega, fun _ _ => q0⟩, hpr]
  · (conv => { lhs; simp -implicitDefEqProofs [l_neSelf, l_eqSelf, key_int, key_str, keyD, defM, initM, tail_mapS, take_mapS, drop_mapS, sl0, slI, lcAll_map, lcAll_rng, forL_map, forL_rng, -List.map_take, -List.map_drop, -List.map_tail, -List.map_reverse, f_Base_init, b_Base_init, absJ, e1, p1, p2, hfm] })
    rw [req_of ⟨by omega, fun _ _ => q0⟩, hpr]
theorem mk_Base {p : Int} {fs : List Int} (h : BaseOk p fs) : mkM false (Str.ofString "Base") f_Base_init [.int p, tI fs] = val (.d (dBase p fs)) := by
  unfold mkM; rw [Base_init_eq h]; rfl
theorem figs_base {p : Int} {v : D} (hp : (2 ≤ p ∧ p ≤ 40) ∨ (-40 ≤ p ∧ p ≤ -2)) (h : figsDue (p.natAbs : Int) v = none) : ∃ fs, v = tI fs ∧ BaseOk p fs := by
  have ht : v.isT = true := by cases v <;> first | rfl | (cases h; done)
  obtain ⟨ds, rfl⟩ := isT_tup ht
  cases hf : (List.range ds.length).find? (badK (p.natAbs : Int) ds) with
  | some k => rw [figs_some hf] at h; cases h
  | none =>
    rw [figs_none hf] at h
    have hf := List.find?_eq_none.mp hf
    have hg : ∀ j, j < ds.length → badK (p.natAbs : Int) ds j = false := fun j hj => by
      have := hf j (List.mem_range.mpr hj)
      simpa using this
    have hds := ints_of (ds := ds) (Nat.le_refl _) hg
    rw [List.take_length] at hds
    have hlen : ¬ (ds.length : Int) < (p.natAbs : Int) := fun z => by rw [if_pos z] at h; cases h
    rw [if_neg hlen] at h
    have h0 : (0 : Int) ∈ ds.map intD := by
      by_cases z : (0 : Int) ∈ ds.map intD
      · exact z
      · rw [if_neg z] at h; cases h
    have hfl : (ds.map intD).length = ds.length := List.length_map ..
    have hgd : ∀ k, k < ds.length → figBadI (p.natAbs : Int) ((ds.map intD).take k) (.int (nth (ds.map intD) k)) = false := fun k hk => by
      have := hg k hk
      unfold badK at this
      rw [List.map_take] at this
      have e : nth ds k = .int (nth (ds.map intD) k) := by
        have := congrArg (fun l => nth l k) hds
        rw [nth_map (by omega)] at this
        exact this
      rwa [e] at this
    generalize hfs : ds.map intD = fs at *
    refine ⟨fs, by rw [hds], ?_⟩
    have hgd' : ∀ k, k < fs.length → (¬ (k : Int) = (p.natAbs : Int)) ∧ (-10000 ≤ nth fs k ∧ nth fs k ≤ 10000) ∧ (nth fs k % (p.natAbs : Int) ∉ (fs.take k).map fun g => g % (p.natAbs : Int)) ∧ (0 < k → nth fs (k - 1) < nth fs k) := fun k hk => by
      have q := hgd k (by omega)
      unfold figBadI at q
      simp only [Bool.or_eq_false_iff, Bool.not_eq_false', decide_eq_false_iff_not, decide_eq_true_eq, Bool.and_eq_false_iff] at q
      have hl : (fs.take k).length = k := by rw [List.length_take]; omega
      rw [hl] at q
      refine ⟨q.1.1.1, q.1.1.2, q.1.2, fun k0 => ?_⟩
      rcases q.2 with z | z
      · exact absurd (fun y => by rw [y] at hl; simp at hl; omega) z
      · have e : nth (fs.take k) (k - 1) = nth fs (k - 1) := by
          rw [nth_lt (by omega), nth_lt (by omega), List.getElem_take]
        rw [e] at z; omega
    have hle : fs.length ≤ p.natAbs := by
      rcases Nat.lt_or_ge p.natAbs fs.length with z | z
      · exact absurd rfl (hgd' _ z).1
      · exact z
    refine ⟨hp, asc_iff.mpr fun k hk => ?_, by omega, fun f hf => ?_, ?_, h0⟩
    · exact (hgd' (k + 1) hk).2.2.2 (by omega)
    · obtain ⟨k, hk, rfl⟩ := List.getElem_of_mem hf
      have := (hgd' k hk).2.1
      rwa [nth_lt hk] at this
    · have key : ∀ j k, j < k → (hk : k < fs.length) → nth fs j % (p.natAbs : Int) ≠ nth fs k % (p.natAbs : Int) := fun j k hjk hk e => by
        refine (hgd' k hk).2.2.1 (List.mem_map.mpr ⟨nth fs j, ?_, e⟩)
        rw [nth_lt (by omega)]
        exact List.mem_take_iff_getElem.mpr ⟨j, by omega, rfl⟩
      intro f hf g hg e
      obtain ⟨j, hj, rfl⟩ := List.getElem_of_mem hf
      obtain ⟨k, hk, rfl⟩ := List.getElem_of_mem hg
      rw [← nth_lt hj, ← nth_lt hk] at e ⊢
      rcases Nat.lt_trichotomy j k with z | z | z
      · exact absurd e (key j k z hk)
      · rw [z]
      · exact absurd e.symm (key k j z hj)
theorem Base_init_bad {n v : D} (hn : n.known = true) (h1 : inB 2 40 n = false) (h2 : inB (-40) (-2) n = false) : f_Base_init [n, v] = exn ⟨"InvalidBase", [("given", n)]⟩ := by
  have e1 := is_within_gen (a := 2) (b := 40) hn
  have e2 := is_within_gen (a := -40) (b := -2) hn
  rw [h1] at e1
  rw [h2] at e2
  (conv => { lhs; simp -implicitDefEqProofs [l_neSelf, l_eqSelf, key_int, key_str, keyD, defM, initM, tail_mapS, take_mapS, drop_mapS, sl0, slI, lcAll_map, lcAll_rng, forL_map, forL_rng, -List.map_take, -List.map_drop, -List.map_tail, -List.map_reverse, f_Base_init, b_Base_init, e1, e2] })
theorem Base_init_fig {p : Int} {v i : D} (hp : (2 ≤ p ∧ p ≤ 40) ∨ (-40 ≤ p ∧ p ≤ -2)) (h : RowD v) (hi : figsDue (p.natAbs : Int) v = some i) : f_Base_init [.int p, v] = exn ⟨"InvalidFigures", [("index", i)]⟩ := by
  have e := check_figures_gen (q := (p.natAbs : Int)) (by omega) h
  rw [hi] at e
  dsimp only at e
  rcases hp with ⟨p1, p2⟩ | ⟨p1, p2⟩
  · (conv => { lhs; simp -implicitDefEqProofs [l_neSelf, l_eqSelf, key_int, key_str, keyD, defM, initM, tail_mapS, take_mapS, drop_mapS, sl0, slI, lcAll_map, lcAll_rng, forL_map, forL_rng, -List.map_take, -List.map_drop, -List.map_tail, -List.map_reverse, f_Base_init, b_Base_init, absJ, p1, p2, e] })
  · (conv => { lhs; simp -implicitDefEqProofs [l_neSelf, l_eqSelf, key_int, key_str, keyD, defM, initM, tail_mapS, take_mapS, drop_mapS, sl0, slI, lcAll_map, lcAll_rng, forL_map, forL_rng, -List.map_take, -List.map_drop, -List.map_tail, -List.map_reverse, f_Base_init, b_Base_init, absJ, p1, p2, e] })

/-- base_told(number, figures); slots: 0 number, 1 figures -/
def b_base_told : SM := (mTry xtab xown (mRet (mCall 2 (mkM false (Str.ofString "Base") f_Base_init) (mCons (mVar 0) (mCons (mVar 1) mNil)))) [⟨[(Str.ofString "InvalidBase"), (Str.ofString "InvalidFigures")], none, (mRet (mC .non))⟩])
def f_base_told : FM := defM b_base_told [(Str.ofString "number"), (Str.ofString "figures")]
theorem base_told_eq {p : Int} {fs : List Int} (h : BaseOk p fs) : f_base_told [.int p, tI fs] = val (.d (dBase p fs)) := by
  have e := mk_Base h
  (conv => { lhs; simp -implicitDefEqProofs [l_neSelf, l_eqSelf, key_int, key_str, keyD, defM, initM, tail_mapS, take_mapS, drop_mapS, sl0, slI, lcAll_map, lcAll_rng, forL_map, forL_rng, -List.map_take, -List.map_drop, -List.map_tail, -List.map_reverse, f_base_told, b_base_told, e] })
theorem xt_ib : xtab.any (Str.ofString "InvalidBase") [Str.ofString "InvalidBase", Str.ofString "InvalidFigures"] = some true := by decide +kernel
theorem xt_if : xtab.any (Str.ofString "InvalidFigures") [Str.ofString "InvalidBase", Str.ofString "InvalidFigures"] = some true := by decide +kernel
theorem base_told_bad {n v : D} (hn : n.known = true) (h1 : inB 2 40 n = false) (h2 : inB (-40) (-2) n = false) : f_base_told [n, v] = val (.d .non) := by
  have e : mkM false (Str.ofString "Base") f_Base_init [n, v] = exn ⟨"InvalidBase", [("given", n)]⟩ := by unfold mkM; rw [Base_init_bad hn h1 h2]; rfl
  (conv => { lhs; simp -implicitDefEqProofs [l_neSelf, l_eqSelf, key_int, key_str, keyD, defM, initM, tail_mapS, take_mapS, drop_mapS, sl0, slI, lcAll_map, lcAll_rng, forL_map, forL_rng, -List.map_take, -List.map_drop, -List.map_tail, -List.map_reverse, f_base_told, b_base_told, e] })
  rw [xt_ib]
  rfl
theorem base_told_fig {p : Int} {v i : D} (hp : (2 ≤ p ∧ p ≤ 40) ∨ (-40 ≤ p ∧ p ≤ -2)) (h : RowD v) (hi : figsDue (p.natAbs : Int) v = some i) : f_base_told [.int p, v] = val (.d .non) := by
  have e : mkM false (Str.ofString "Base") f_Base_init [.int p, v] = exn ⟨"InvalidFigures", [("index", i)]⟩ := by unfold mkM; rw [Base_init_fig hp h hi]; rfl
  (conv => { lhs; simp -implicitDefEqProofs [l_neSelf, l_eqSelf, key_int, key_str, keyD, defM, initM, tail_mapS, take_mapS, drop_mapS, sl0, slI, lcAll_map, lcAll_rng, forL_map, forL_rng, -List.map_take, -List.map_drop, -List.map_tail, -List.map_reverse, f_base_told, b_base_told, e] })
  rw [xt_if]
  rfl

/-- Base_number(self); slots: 0 self -/
def b_Base_number : SM := (mRet (mFld (Str.ofString "Base") (Str.ofString "power") (mVar 0)))
def f_Base_number : FM := defM b_Base_number [(Str.ofString "self")]
--@use base
theorem Base_number_eq {p : Int} {fs : List Int} : f_Base_number [dBase p fs] = val (.d (.int p)) := by
  (conv => { lhs; simp -implicitDefEqProofs [l_neSelf, l_eqSelf, key_int, key_str, keyD, defM, initM, tail_mapS, take_mapS, drop_mapS, sl0, slI, lcAll_map, lcAll_rng, forL_map, forL_rng, -List.map_take, -List.map_drop, -List.map_tail, -List.map_reverse, f_Base_number, b_Base_number] })

/-- reads_as(base, value); slots: 0 base, 1 value, 2 found, 3 figure -/
def b_reads_as : SM := (mSeq (mSet 2 (mC (.int 0)))
  (mSeq (mFor (mItems (mVar 1)) (fName 3) (mSet 2 (mBin fAdd (mBin fMul (mVar 2) (mProp (Str.ofString "Base") f_Base_number (mVar 0))) (mVar 3))) [3])
  (mRet (mVar 2))))
def f_reads_as : FM := defM b_reads_as [(Str.ofString "base"), (Str.ofString "value"), (Str.ofString "found"), (Str.ofString "figure")]
theorem reads_as_eq {p : Int} {fs r : List Int} (h : BaseOk p fs) : f_reads_as [dBase p fs, tI r] = val (.d (.int (valB p r))) := by
  have hp := h.p2
  (conv => { lhs; simp -implicitDefEqProofs [l_neSelf, l_eqSelf, key_int, key_str, keyD, defM, initM, tail_mapS, take_mapS, drop_mapS, sl0, slI, lcAll_map, lcAll_rng, forL_map, forL_rng, -List.map_take, -List.map_drop, -List.map_tail, -List.map_reverse, f_reads_as, b_reads_as, Base_number_eq] })
  rw [forL_endF (fun v : Int => [some (.d (dBase p fs)), some (.d (tI r)), some (.d (.int v)), none]) (fun v f => v * p + f) 0 rfl fun v f _ => ?_]
  · rfl
  · simp -implicitDefEqProofs [l_neSelf, l_eqSelf, key_int, key_str, keyD, defM, initM, tail_mapS, take_mapS, drop_mapS, sl0, slI, lcAll_map, lcAll_rng, forL_map, forL_rng, -List.map_take, -List.map_drop, -List.map_tail, -List.map_reverse, Base_number_eq]
    rw [req_of (mulOk_r ⟨by omega, by omega⟩)]

/-- Base_figures(self); slots: 0 self -/
def b_Base_figures : SM := (mRet (mFld (Str.ofString "Base") (Str.ofString "signs") (mVar 0)))
def f_Base_figures : FM := defM b_Base_figures [(Str.ofString "self")]
--@use base
theorem Base_figures_eq {p : Int} {fs : List Int} : f_Base_figures [dBase p fs] = val (.d (tI fs)) := by
  (conv => { lhs; simp -implicitDefEqProofs [l_neSelf, l_eqSelf, key_int, key_str, keyD, defM, initM, tail_mapS, take_mapS, drop_mapS, sl0, slI, lcAll_map, lcAll_rng, forL_map, forL_rng, -List.map_take, -List.map_drop, -List.map_tail, -List.map_reverse, f_Base_figures, b_Base_figures] })

--@use lotd while
def intE : D → Int
  | .int i => i
  | _ => 0
/-- a list of numbers, or not -/
def listD : D → Bool
  | .tup ds => ds.all D.isI && isListI (ds.map intE)
  | _ => false
structure El (e : D) : Prop where
  kn : e.known = true
  el : ∀ ds, e = .tup ds → ds.length ≤ 100 ∧ ∀ x ∈ ds, x.known = true ∧ EqOk 58 x
  eq : EqOk 59 e
/-- what is_list may be asked of -/
structure Ls (e : D) : Prop where
  kn : e.known = true
  el : ∀ ds, e = .tup ds → ds.length ≤ 100 ∧ ∀ x ∈ ds, x.known = true ∧ EqOk 58 x
theorem El.ls {e : D} (h : El e) : Ls e := ⟨h.kn, h.el⟩
structure ValD (d : D) : Prop where
  kn : d.known = true
  el : ∀ ds, d = .tup ds → ds.length ≤ 100 ∧ ∀ e ∈ ds, El e
theorem isT_tupE {d : D} (h : d.isT = true) : ∃ ds, d = .tup ds := by cases d <;> first | (cases h; done) | exact ⟨_, rfl⟩
theorem El.tup {ds : List D} (hl : ds.length ≤ 100) (h : ∀ x ∈ ds, x.known = true ∧ EqOk 58 x) : El (.tup ds) := ⟨rfl, fun es e => by injection e with e; subst e; exact ⟨hl, h⟩, by rw [eqOk_tup (n := 58)]; exact fun x hx => (h x hx).2⟩
theorem El.other {d : D} (h1 : d.known = true) (h2 : d.isT = false) (h3 : EqOk 59 d) : El d := ⟨h1, fun es e => (by subst e; cases h2), h3⟩
theorem ValD.tup {ds : List D} (hl : ds.length ≤ 100) (h : ∀ x ∈ ds, El x) : ValD (.tup ds) := ⟨rfl, fun es e => by injection e with e; subst e; exact ⟨hl, h⟩⟩
theorem ValD.other {d : D} (h1 : d.known = true) (h2 : d.isT = false) : ValD d := ⟨h1, fun es e => by subst e; cases h2⟩
theorem El.ints {ns : List Int} (h : ns.length ≤ 100) : El (tI ns) := .tup (by rw [List.length_map]; exact h) fun x hx => by
  obtain ⟨i, _, rfl⟩ := List.mem_map.mp hx
  exact ⟨rfl, eqOk_int⟩
theorem ints_all {ds : List D} (h : ds.all D.isI = true) : ds = (ds.map intE).map .int := by
  rw [List.map_map]
  conv => lhs; rw [← List.map_id ds]
  apply List.map_congr_left
  intro x hx
  have := List.all_eq_true.mp h x hx
  cases x <;> first | rfl | cases this
/-- the index of what is wrong with lists -/
def slipF : Option Nat → Option D
  | some k => some (.int (k : Nat))
  | none => none
def slipI : D → Option D
  | .tup [] => some .non
  | .tup ds => slipF ((List.range ds.length).find? fun k => decide (k = 6) || !listD (nth ds k))
  | _ => some .non
theorem slipI_no {d : D} (h : d.isT = false) : slipI d = some .non := by cases d <;> first | rfl | cases h
theorem slipI_tup {ds : List D} (h : ds ≠ []) : slipI (.tup ds) = slipF ((List.range ds.length).find? fun k => decide (k = 6) || !listD (nth ds k)) := by
  cases ds with
  | nil => exact absurd rfl h
  | cons a l => rfl
theorem l_eqT0E {ds : List D} (h : EqOk 60 (.tup ds)) : M.lift (fEq (.tup ds) (.tup [])) = M.one (.d (.bl (decide (ds = [])))) := lift_one fun R => by
  unfold fEq
  rw [cmpOk_of (n := 60) h (by simp [eqOk_tup (n := 59)]) (by decide)]
  cases ds <;> simp [D.eqb, D.py, D.pys, PyData.eqv, PyData.eqvAll]
theorem l_neL0E {ds : List D} (h : EqOk 60 (.lst ds)) : M.lift (fNe (.lst ds) (.lst [])) = M.one (.d (.bl (!decide (ds = [])))) := lift_one fun R => by
  unfold fNe
  rw [cmpOk_of (n := 60) h (by simp [eqOk_lst (n := 59)]) (by decide)]
  cases ds <;> simp [D.eqb, D.py, D.pys, PyData.eqv, PyData.eqvAll]
theorem l_eqL0E {ds : List D} (h : EqOk 60 (.lst ds)) : M.lift (fEq (.lst ds) (.lst [])) = M.one (.d (.bl (decide (ds = [])))) := lift_one fun R => by
  unfold fEq
  rw [cmpOk_of (n := 60) h (by simp [eqOk_lst (n := 59)]) (by decide)]
  cases ds <;> simp [D.eqb, D.py, D.pys, PyData.eqv, PyData.eqvAll]
theorem slip_good {d : D} (h : slipI d = none) : ∃ ls : List (List Int), d = tL ls ∧ LotOk ls := by
  cases ht : d.isT with
  | false => rw [slipI_no ht] at h; cases h
  | true =>
    obtain ⟨ds, rfl⟩ := isT_tupE ht
    by_cases hne : ds = []
    · subst hne; cases h
    · rw [slipI_tup hne] at h
      cases hf : (List.range ds.length).find? fun k => decide (k = 6) || !listD (nth ds k) with
      | some k => rw [hf] at h; cases h
      | none =>
        have hk := List.find?_eq_none.mp hf
        have hg : ∀ k (q : k < ds.length), listD ds[k] = true := fun k q => by
          have := hk k (List.mem_range.mpr q)
          rw [nth_lt q] at this
          simp at this
          exact this.2
        have hl : ds.length ≤ 6 := by
          rcases Nat.lt_or_ge 6 ds.length with q | q
          · have := hk 6 (List.mem_range.mpr q)
            simp at this
          · exact q
        have : ∀ (es : List D), (∀ e ∈ es, listD e = true) → ∃ ls : List (List Int), es = ls.map tI ∧ ∀ l ∈ ls, isListI l = true := fun es => by
          induction es with
          | nil => intro _; exact ⟨[], rfl, fun f h => absurd h (by simp)⟩
          | cons e es ih =>
            intro h
            obtain ⟨ls, rfl, hb⟩ := ih fun x hx => h x (List.mem_cons_of_mem _ hx)
            have he := h e (List.mem_cons_self ..)
            cases e <;> first | (cases he; done) | skip
            rename_i xs
            have he : (xs.all D.isI && isListI (xs.map intE)) = true := he
            rw [Bool.and_eq_true] at he
            refine ⟨xs.map intE :: ls, ?_, fun c hc => (List.mem_cons.mp hc).elim (fun z => by rw [z]; exact he.2) (hb c)⟩
            rw [List.map_cons]
            congr 1
            show D.tup xs = .tup ((xs.map intE).map .int)
            rw [← ints_all he.1]
        obtain ⟨ls, rfl, hb⟩ := this ds fun e he => by
          obtain ⟨k, q, rfl⟩ := List.getElem_of_mem he
          exact hg k q
        rw [List.length_map] at hl
        refine ⟨ls, rfl, ⟨?_, hl⟩, fun l hl2 => list_ok (hb l hl2)⟩
        rcases ls with _ | ⟨b, bs⟩
        · exact absurd rfl hne
        · simp

--@use figs rowd vald inb
/-- what stands in a paper: known, its elements known -/
structure Pp1 (e : D) : Prop where
  kn : e.known = true
  eq : EqOk 58 e
  el : ∀ es, e = .tup es → es.length ≤ 1000 ∧ ∀ x ∈ es, x.known = true ∧ EqOk 57 x
structure PapD (d : D) : Prop where
  kn : d.known = true
  el : ∀ ds, d = .tup ds → ds.length ≤ 100000 ∧ ∀ e ∈ ds, Pp1 e
theorem Pp1.other {d : D} (h1 : d.known = true) (h2 : d.isT = false) (h3 : EqOk 58 d) : Pp1 d := ⟨h1, h3, fun es e => by subst e; cases h2⟩
theorem Pp1.int {i : Int} : Pp1 (.int i) := .other rfl rfl eqOk_int
theorem Pp1.non : Pp1 .non := .other rfl rfl eqOk_non
theorem Pp1.bl {b : Bool} : Pp1 (.bl b) := .other rfl rfl eqOk_bl
theorem Pp1.str {s : Str} (h : PyData.strOk s = true) : Pp1 (.str s) := .other rfl rfl (eqOk_str.mpr h)
theorem Pp1.tup {ds : List D} (hl : ds.length ≤ 1000) (h : ∀ x ∈ ds, x.known = true ∧ EqOk 57 x) : Pp1 (.tup ds) := ⟨rfl, by rw [eqOk_tup (n := 57)]; exact fun x hx => (h x hx).2, fun es e => by injection e with e; subst e; exact ⟨hl, h⟩⟩
theorem PapD.other {d : D} (h1 : d.known = true) (h2 : d.isT = false) : PapD d := ⟨h1, fun es e => by subst e; cases h2⟩
theorem PapD.tup {ds : List D} (hl : ds.length ≤ 100000) (h : ∀ x ∈ ds, Pp1 x) : PapD (.tup ds) := ⟨rfl, fun es e => by injection e with e; subst e; exact ⟨hl, h⟩⟩
theorem PapD.ints {ns : List Int} (h : ns.length ≤ 100000) : PapD (tI ns) := .tup (by rw [List.length_map]; exact h) fun x hx => by
  obtain ⟨i, _, rfl⟩ := List.mem_map.mp hx
  exact .int
theorem isT_tupP {d : D} (h : d.isT = true) : ∃ ds, d = .tup ds := by cases d <;> first | (cases h; done) | exact ⟨_, rfl⟩
def oddP : List D := [.non, .int 0, .lst [], .tup [.tup []], .dic [], .str (Str.ofString ""), .str (Str.ofString "()"), .tup [.int 0], .tup [.int 0, .int 0, .int 0], .lst [.str (Str.ofString "ab")], .bl true, .tup [.str (Str.ofString "")], .tup [.non, .tup []], .tup [.str (Str.ofString ""), .tup [], .tup []], .tup [.tup [.int 2], .lst []]]
theorem s0Ok : PyData.strOk (Str.ofString "") = true := by decide +kernel
theorem s1Ok : PyData.strOk (Str.ofString "1") = true := by decide +kernel
theorem Pp1.t0 : Pp1 (.tup []) := .tup (by simp) (by simp)
theorem oddP_pap {d : D} (h : d ∈ oddP) : PapD d := by
  have t0 := Pp1.t0
  have i0 : ∀ i, Pp1 (.int i) := fun _ => .int
  have e0 := Pp1.str s0Ok
  unfold oddP at h
  simp only [List.mem_cons, List.mem_nil_iff, or_false] at h
  have tp : ∀ {ds : List D}, ds.length ≤ 10 → (∀ x ∈ ds, Pp1 x) → PapD (.tup ds) := fun h1 h2 => .tup (by omega) h2
  have l0 : Pp1 (.lst []) := .other rfl rfl (by rw [eqOk_lst (n := 57)]; exact eqOkA_nil)
  have p2 : Pp1 (.tup [.int 2]) := .tup (by simp) (fun x hx => by rw [List.mem_singleton.mp hx]; exact ⟨rfl, eqOk_int⟩)
  rcases h with rfl | rfl | rfl | rfl | rfl | rfl | rfl | rfl | rfl | rfl | rfl | rfl | rfl | rfl | rfl <;> first
    | exact .other rfl rfl
    | exact tp (by simp) (by simp [t0, i0, e0, Pp1.non, l0, p2])

--@use pap base2
/-- a row of figures that does not begin with 0 -/
def rowT (fs : List Int) (ds : List D) : Option (List Int) := if ds.all (figB fs) = true ∧ (ds.map intD).head? ≠ some 0 then some (ds.map intD) else none
def rowR (fs : List Int) : D → Option (List Int)
  | .tup ds => rowT fs ds
  | _ => none
theorem figB_int {fs : List Int} {ds : List D} (h : ds.all (figB fs) = true) : ds = (ds.map intD).map .int ∧ ∀ f ∈ ds.map intD, f ∈ fs := by
  have hx : ∀ d ∈ ds, figB fs d = true := List.all_eq_true.mp h
  constructor
  · rw [List.map_map]
    refine (List.map_id ds).symm.trans (List.map_congr_left fun d hd => ?_)
    have := hx d hd
    cases d <;> first | rfl | cases this
  · intro f hf
    obtain ⟨d, hd, rfl⟩ := List.mem_map.mp hf
    have := hx d hd
    cases d <;> first | (cases this; done) | exact of_decide_eq_true this
theorem rowR_tup {fs : List Int} {d : D} {r : List Int} (h : rowR fs d = some r) : d = tI r ∧ (∀ f ∈ r, f ∈ fs) ∧ r.head? ≠ some 0 := by
  cases d <;> first | (cases h; done) | skip
  rename_i ds
  have h : rowT fs ds = some r := h
  unfold rowT at h
  by_cases hc : ds.all (figB fs) = true ∧ (ds.map intD).head? ≠ some 0
  · rw [if_pos hc] at h
    have h := Option.some.inj h
    obtain ⟨e, hm⟩ := figB_int hc.1
    rw [← h]
    exact ⟨congrArg D.tup e, hm, hc.2⟩
  · rw [if_neg hc] at h; cases h
theorem rowR_noT {fs : List Int} {d : D} (h : d.isT = false) : rowR fs d = none := by cases d <;> first | rfl | cases h
theorem rowR_bad {fs : List Int} {ds : List D} (h : ds.all (figB fs) = false) : rowR fs (.tup ds) = none := by
  show rowT fs ds = none
  unfold rowT; rw [if_neg (by rw [h]; simp)]
theorem odd_row {fs : List Int} {d : D} (h : d ∈ oddP) : rowR fs d = none := by
  unfold oddP at h
  simp only [List.mem_cons, List.mem_nil_iff, or_false] at h
  rcases h with rfl | rfl | rfl | rfl | rfl | rfl | rfl | rfl | rfl | rfl | rfl | rfl | rfl | rfl | rfl <;> first
    | rfl
    | exact rowR_bad rfl
    | (show rowT fs _ = none; unfold rowT; rw [if_neg (by simp [intD])])
theorem rowR_I {fs r : List Int} (h : ∀ f ∈ r, f ∈ fs) : rowR fs (tI r) = if r.head? ≠ some 0 then some r else none := by
  have e : (r.map D.int).map intD = r := by rw [List.map_map]; exact List.map_id r
  have ha : (r.map D.int).all (figB fs) = true := List.all_eq_true.mpr fun d hd => by
    obtain ⟨f, hf, rfl⟩ := List.mem_map.mp hd
    exact decide_eq_true (h f hf)
  show rowT fs (r.map D.int) = _
  unfold rowT
  rw [e, ha]
  simp

/-- is_row_of(base, value); slots: 0 base, 1 value, 2 figure -/
def b_is_row_of : SM := (mSeq (mIf (mOr (mNot (mB (mCallB fIsi (mCons (mVar 1) (mCons (mC (.v (.ty "tuple"))) mNil))))) (mNot (mB (mCallB fAll (mCons (mLc (mItems (mVar 1)) (fName 2) mYes (mAndV (mCall 1 f_is_integer (mCons (mVar 2) mNil)) (mBin fIn (mVar 2) (mProp (Str.ofString "Base") f_Base_figures (mVar 0)))) [2]) mNil))))) (mRet (mC (.bl false))) mNext)
  (mRet (mOrV (mBin fEq (mVar 1) (mTup mNil)) (mBin fNe (mIxV 1 (mC (.int 0))) (mC (.int 0))))))
def f_is_row_of : FM := defM b_is_row_of [(Str.ofString "base"), (Str.ofString "value"), (Str.ofString "figure")]
--@use rowr
theorem is_row_of_gen {p : Int} {fs : List Int} {d : D} (h : PapD d) : f_is_row_of [dBase p fs, d] = val (.d (.bl (rowR fs d).isSome)) := by
  have hk := h.kn
  cases ht : d.isT with
  | false =>
    rw [rowR_noT ht]
    (conv => { lhs; simp -implicitDefEqProofs [l_neSelf, l_eqSelf, key_int, key_str, keyD, defM, initM, tail_mapS, take_mapS, drop_mapS, sl0, slI, lcAll_map, lcAll_rng, forL_map, forL_rng, -List.map_take, -List.map_drop, -List.map_tail, -List.map_reverse, f_is_row_of, b_is_row_of, l_isi_tup hk, ht] })
    rfl
  | true =>
    obtain ⟨ds, rfl⟩ := isT_tupP ht
    obtain ⟨hl, he⟩ := h.el ds rfl
    have hc : lcAll (lcT (fName 2) mYes (mAndV (mCall 1 f_is_integer (mCons (mVar 2) mNil)) (mBin fIn (mVar 2) (mProp (Str.ofString "Base") f_Base_figures (mVar 0)))) [some (.d (dBase p fs)), some (.d (.tup ds)), none]) ds = M.one (ds.map fun a => .bl (figB fs a)) := by
      refine (lcAll_congr (step' := fun a => M.one [.bl (figB fs a)]) fun a ha => ?_).trans lcAll_one1
      have hi := is_integer_eq (he a ha).kn
      cases hI : a.isI with
      | true =>
        have : ∃ i, a = .int i := by cases a <;> first | (cases hI; done) | exact ⟨_, rfl⟩
        obtain ⟨i, rfl⟩ := this
        (conv => { lhs; simp -implicitDefEqProofs [l_neSelf, l_eqSelf, key_int, key_str, keyD, defM, initM, tail_mapS, take_mapS, drop_mapS, sl0, slI, lcAll_map, lcAll_rng, forL_map, forL_rng, -List.map_take, -List.map_drop, -List.map_tail, -List.map_reverse, hi, Base_figures_eq] })
        rfl
      | false =>
        have : figB fs a = false := by cases a <;> first | rfl | cases hI
        rw [this]
        (conv => { lhs; simp -implicitDefEqProofs [l_neSelf, l_eqSelf, key_int, key_str, keyD, defM, initM, tail_mapS, take_mapS, drop_mapS, sl0, slI, lcAll_map, lcAll_rng, forL_map, forL_rng, -List.map_take, -List.map_drop, -List.map_tail, -List.map_reverse, hi, hI] })
    have hall : M.lift (fAll [.lst (ds.map fun a => .bl (figB fs a))]) = M.one (.d (.bl (ds.all (figB fs)))) := l_allM (p := figB fs)
    cases ha : ds.all (figB fs) with
    | false =>
      rw [rowR_bad ha]
      rw [ha] at hall
      (conv => { lhs; simp -implicitDefEqProofs [l_neSelf, l_eqSelf, key_int, key_str, keyD, defM, initM, tail_mapS, take_mapS, drop_mapS, sl0, slI, lcAll_map, lcAll_rng, forL_map, forL_rng, -List.map_take, -List.map_drop, -List.map_tail, -List.map_reverse, f_is_row_of, b_is_row_of] })
      rw [req_of (by omega), hc]
      simp -implicitDefEqProofs [l_neSelf, l_eqSelf, key_int, key_str, keyD, defM, initM, tail_mapS, take_mapS, drop_mapS, sl0, slI, lcAll_map, lcAll_rng, forL_map, forL_rng, -List.map_take, -List.map_drop, -List.map_tail, -List.map_reverse, hall]
    | true =>
      rw [ha] at hall
      obtain ⟨e, hm⟩ := figB_int ha
      generalize ds.map intD = r at *
      subst e
      rw [rowR_I hm]
      rw [List.length_map] at hl
      (conv => { lhs; simp -implicitDefEqProofs [l_neSelf, l_eqSelf, key_int, key_str, keyD, defM, initM, tail_mapS, take_mapS, drop_mapS, sl0, slI, lcAll_map, lcAll_rng, forL_map, forL_rng, -List.map_take, -List.map_drop, -List.map_tail, -List.map_reverse, f_is_row_of, b_is_row_of, Base_figures_eq] })
      rw [req_of (by omega), if_neg (fun ⟨x, h1, h2⟩ => h2 (hm x h1))]
      cases r with
      | nil => simp -implicitDefEqProofs [l_neSelf, l_eqSelf, key_int, key_str, keyD, defM, initM, tail_mapS, take_mapS, drop_mapS, sl0, slI, lcAll_map, lcAll_rng, forL_map, forL_rng, -List.map_take, -List.map_drop, -List.map_tail, -List.map_reverse]
      | cons a l =>
        have n0 : nth (a :: l) 0 = a := rfl
        by_cases z : a = 0
        · simp -implicitDefEqProofs [l_neSelf, l_eqSelf, key_int, key_str, keyD, defM, initM, tail_mapS, take_mapS, drop_mapS, sl0, slI, lcAll_map, lcAll_rng, forL_map, forL_rng, -List.map_take, -List.map_drop, -List.map_tail, -List.map_reverse, n0, z]
        · simp -implicitDefEqProofs [l_neSelf, l_eqSelf, key_int, key_str, keyD, defM, initM, tail_mapS, take_mapS, drop_mapS, sl0, slI, lcAll_map, lcAll_rng, forL_map, forL_rng, -List.map_take, -List.map_drop, -List.map_tail, -List.map_reverse, n0, z]

/-- is_empty(value); slots: 0 value -/
def b_is_empty : SM := (mRet (mAndV (mCallB fIsi (mCons (mVar 0) (mCons (mC (.v (.ty "tuple"))) mNil))) (mBin fEq (mCallB fLen (mCons (mVar 0) mNil)) (mC (.int 0)))))
def f_is_empty : FM := defM b_is_empty [(Str.ofString "value")]
--@use pap
def emptyB : D → Bool
  | .tup [] => true
  | _ => false
theorem is_empty_gen {d : D} (h : d.known = true) : f_is_empty [d] = val (.d (.bl (emptyB d))) := by
  cases ht : d.isT with
  | false =>
    (conv => { lhs; simp -implicitDefEqProofs [l_neSelf, l_eqSelf, key_int, key_str, keyD, defM, initM, tail_mapS, take_mapS, drop_mapS, sl0, slI, lcAll_map, lcAll_rng, forL_map, forL_rng, -List.map_take, -List.map_drop, -List.map_tail, -List.map_reverse, f_is_empty, b_is_empty, h, ht] })
    have : emptyB d = false := by cases d <;> first | rfl | cases ht
    rw [this]
  | true =>
    obtain ⟨ds, rfl⟩ := isT_tupP ht
    (conv => { lhs; simp -implicitDefEqProofs [l_neSelf, l_eqSelf, key_int, key_str, keyD, defM, initM, tail_mapS, take_mapS, drop_mapS, sl0, slI, lcAll_map, lcAll_rng, forL_map, forL_rng, -List.map_take, -List.map_drop, -List.map_tail, -List.map_reverse, f_is_empty, b_is_empty, h, ht] })
    cases ds with
    | nil => rfl
    | cons a l => 
      have : ¬ ((a :: l).length : Int) = 0 := by simp; omega
      simp [this, emptyB]

/-- Base_writes_all(self); slots: 0 self -/
def b_Base_writes_all : SM := (mRet (mBin fEq (mCall 1 f_rounds_of (mCons (mVar 0) mNil)) (mTup mNil)))
def f_Base_writes_all : FM := defM b_Base_writes_all [(Str.ofString "self")]
--@use round
theorem Base_writes_all_eq {p : Int} {fs : List Int} (h : BaseOk p fs) : f_Base_writes_all [dBase p fs] = val (.d (.bl (decide (roundsB p fs = [])))) := by
  have e := rounds_of_eq h
  (conv => { lhs; simp -implicitDefEqProofs [l_neSelf, l_eqSelf, key_int, key_str, keyD, defM, initM, tail_mapS, take_mapS, drop_mapS, sl0, slI, lcAll_map, lcAll_rng, forL_map, forL_rng, -List.map_take, -List.map_drop, -List.map_tail, -List.map_reverse, f_Base_writes_all, b_Base_writes_all, e] })


/-- accepts_base(claim, certificate); slots: 0 claim, 1 certificate, 2 base -/
def f_is_round : FM := fun _ => M.bad
@[simp] theorem dropped_is_round {ds : List D} : f_is_round ds = M.bad := rfl
def b_accepts_base : SM := (mSeq (mSet 2 (mCall 2 f_base_told (mCons (mIxV 0 (mC (.int 1))) (mCons (mIxV 0 (mC (.int 2))) mNil))))
  (mSeq (mIf (mB (mUn fIs (mVar 2))) (mRet (mC (.bl false))) mNext)
  (mSeq (mIf (mB (mBin fEq (mIxV 0 (mC (.int 0))) (mC (.str (Str.ofString "round"))))) (mRet mBadE) mNext)
  (mSeq (mIf (mB (mBin fEq (mIxV 0 (mC (.int 0))) (mC (.str (Str.ofString "all"))))) (mRet (mAndV (mCall 1 f_is_empty (mCons (mVar 1) mNil)) (mMeth (Str.ofString "Base") (Str.ofString "writes_all") 1 f_Base_writes_all (mVar 2) mNil))) mNext)
  (mRet (mAndV (mCall 1 f_is_integer (mCons (mIxV 0 (mC (.int 3))) mNil)) (mAndV (mCall 2 f_is_row_of (mCons (mVar 2) (mCons (mVar 1) mNil))) (mBin fEq (mCall 2 f_reads_as (mCons (mVar 2) (mCons (mVar 1) mNil))) (mIxV 0 (mC (.int 3)))))))))))
def f_accepts_base : FM := defM b_accepts_base [(Str.ofString "claim"), (Str.ofString "certificate"), (Str.ofString "base")]
--@use rowr
def claimW (p : Int) (fs : List Int) (n d : D) : Bool := match n with
  | .int x => match rowR fs d with
    | some r => decide (valB p r = x)
    | none => false
  | _ => false
theorem accepts_base_w {p : Int} {fs : List Int} {n d : D} (h : BaseOk p fs) (hn : n.known = true) (hd : PapD d) : f_accepts_base [.tup [.str (Str.ofString "written"), .int p, tI fs, n], d] = val (.d (.bl (claimW p fs n d))) := by
  have e1 := base_told_eq h
  have e2 := is_row_of_gen (p := p) (fs := fs) hd
  have e3 := is_integer_eq hn
  (conv => { lhs; simp -implicitDefEqProofs [l_neSelf, l_eqSelf, key_int, key_str, keyD, defM, initM, tail_mapS, take_mapS, drop_mapS, sl0, slI, lcAll_map, lcAll_rng, forL_map, forL_rng, -List.map_take, -List.map_drop, -List.map_tail, -List.map_reverse, f_accepts_base, b_accepts_base, e1, e2, e3] })
  cases n <;> first | rfl | skip
  rename_i x
  show out (bindES (if (rowR fs d).isSome = true then _ else _) _) = val (.d (.bl (match rowR fs d with
    | some r => decide (valB p r = x)
    | none => false)))
  cases hr : rowR fs d with
  | none => rfl
  | some r =>
    obtain ⟨rfl, hm, h0⟩ := rowR_tup hr
    have e4 := reads_as_eq (r := r) h
    (conv => { lhs; simp -implicitDefEqProofs [l_neSelf, l_eqSelf, key_int, key_str, keyD, defM, initM, tail_mapS, take_mapS, drop_mapS, sl0, slI, lcAll_map, lcAll_rng, forL_map, forL_rng, -List.map_take, -List.map_drop, -List.map_tail, -List.map_reverse, e4] })
theorem accepts_base_bad {a b n d : D} (h : f_base_told [a, b] = val (.d .non)) : f_accepts_base [.tup [.str (Str.ofString "written"), a, b, n], d] = val (.d (.bl false)) := by
  (conv => { lhs; simp -implicitDefEqProofs [l_neSelf, l_eqSelf, key_int, key_str, keyD, defM, initM, tail_mapS, take_mapS, drop_mapS, sl0, slI, lcAll_map, lcAll_rng, forL_map, forL_rng, -List.map_take, -List.map_drop, -List.map_tail, -List.map_reverse, f_accepts_base, b_accepts_base, h] })
theorem accepts_base_badA {a b d : D} (h : f_base_told [a, b] = val (.d .non)) : f_accepts_base [.tup [.str (Str.ofString "all"), a, b], d] = val (.d (.bl false)) := by
  (conv => { lhs; simp -implicitDefEqProofs [l_neSelf, l_eqSelf, key_int, key_str, keyD, defM, initM, tail_mapS, take_mapS, drop_mapS, sl0, slI, lcAll_map, lcAll_rng, forL_map, forL_rng, -List.map_take, -List.map_drop, -List.map_tail, -List.map_reverse, f_accepts_base, b_accepts_base, h] })

--@use rowr
abbrev lenTab : List (Str × Int) := [(Str.ofString "fills", 2), (Str.ofString "twice", 3), (Str.ofString "never", 3), (Str.ofString "joins", 2), (Str.ofString "alone", 2), (Str.ofString "written", 4), (Str.ofString "round", 3), (Str.ofString "all", 3)]
theorem l_inStr {x : Str} {ss : List Str} {b : Bool} (h : ((ss.map D.str).any fun z => D.eqb z (.str x)) = b) : M.lift (fIn (.str x) (.tup (ss.map .str))) = M.one (.d (.bl b)) := lift_one fun R => by
  have hs : (ss.map D.str).all D.scl = true := List.all_eq_true.mpr fun d hd => by
    obtain ⟨z, _, rfl⟩ := List.mem_map.mp hd
    rfl
  subst h
  exact propext ⟨fun ⟨ds, e, _, _, q⟩ => by cases e; exact q, fun q => ⟨_, rfl, rfl, hs, q⟩⟩
abbrev wLots : List Str := [Str.ofString "fills", Str.ofString "twice", Str.ofString "never"]
abbrev wLists : List Str := [Str.ofString "joins", Str.ofString "alone"]
theorem tab_fills : tabAt lenTab (Str.ofString "fills") = some 2 := by decide +kernel
theorem inA_fills : M.lift (fIn (.str (Str.ofString "fills")) (.tup [.str (Str.ofString "fills"), .str (Str.ofString "twice"), .str (Str.ofString "never")])) = M.one (.d (.bl true)) := l_inStr (ss := wLots) (by decide +kernel)
theorem inB_fills : M.lift (fIn (.str (Str.ofString "fills")) (.tup [.str (Str.ofString "joins"), .str (Str.ofString "alone")])) = M.one (.d (.bl false)) := l_inStr (ss := wLists) (by decide +kernel)
theorem ok_fills : PyData.strOk (Str.ofString "fills") = true := by decide +kernel
theorem tabI_fills : M.lift (fTabIn true lenTab (.str (Str.ofString "fills"))) = M.one (.d (.bl false)) := by rw [l_tabIn, tab_fills]; rfl
theorem tabX_fills : M.lift (fTabIx lenTab (.str (Str.ofString "fills"))) = M.one (.d (.int 2)) := l_tabIx tab_fills
theorem tab_twice : tabAt lenTab (Str.ofString "twice") = some 3 := by decide +kernel
theorem inA_twice : M.lift (fIn (.str (Str.ofString "twice")) (.tup [.str (Str.ofString "fills"), .str (Str.ofString "twice"), .str (Str.ofString "never")])) = M.one (.d (.bl true)) := l_inStr (ss := wLots) (by decide +kernel)
theorem inB_twice : M.lift (fIn (.str (Str.ofString "twice")) (.tup [.str (Str.ofString "joins"), .str (Str.ofString "alone")])) = M.one (.d (.bl false)) := l_inStr (ss := wLists) (by decide +kernel)
theorem ok_twice : PyData.strOk (Str.ofString "twice") = true := by decide +kernel
theorem tabI_twice : M.lift (fTabIn true lenTab (.str (Str.ofString "twice"))) = M.one (.d (.bl false)) := by rw [l_tabIn, tab_twice]; rfl
theorem tabX_twice : M.lift (fTabIx lenTab (.str (Str.ofString "twice"))) = M.one (.d (.int 3)) := l_tabIx tab_twice
theorem tab_never : tabAt lenTab (Str.ofString "never") = some 3 := by decide +kernel
theorem inA_never : M.lift (fIn (.str (Str.ofString "never")) (.tup [.str (Str.ofString "fills"), .str (Str.ofString "twice"), .str (Str.ofString "never")])) = M.one (.d (.bl true)) := l_inStr (ss := wLots) (by decide +kernel)
theorem inB_never : M.lift (fIn (.str (Str.ofString "never")) (.tup [.str (Str.ofString "joins"), .str (Str.ofString "alone")])) = M.one (.d (.bl false)) := l_inStr (ss := wLists) (by decide +kernel)
theorem ok_never : PyData.strOk (Str.ofString "never") = true := by decide +kernel
theorem tabI_never : M.lift (fTabIn true lenTab (.str (Str.ofString "never"))) = M.one (.d (.bl false)) := by rw [l_tabIn, tab_never]; rfl
theorem tabX_never : M.lift (fTabIx lenTab (.str (Str.ofString "never"))) = M.one (.d (.int 3)) := l_tabIx tab_never
theorem tab_joins : tabAt lenTab (Str.ofString "joins") = some 2 := by decide +kernel
theorem inA_joins : M.lift (fIn (.str (Str.ofString "joins")) (.tup [.str (Str.ofString "fills"), .str (Str.ofString "twice"), .str (Str.ofString "never")])) = M.one (.d (.bl false)) := l_inStr (ss := wLots) (by decide +kernel)
theorem inB_joins : M.lift (fIn (.str (Str.ofString "joins")) (.tup [.str (Str.ofString "joins"), .str (Str.ofString "alone")])) = M.one (.d (.bl true)) := l_inStr (ss := wLists) (by decide +kernel)
theorem ok_joins : PyData.strOk (Str.ofString "joins") = true := by decide +kernel
theorem tabI_joins : M.lift (fTabIn true lenTab (.str (Str.ofString "joins"))) = M.one (.d (.bl false)) := by rw [l_tabIn, tab_joins]; rfl
theorem tabX_joins : M.lift (fTabIx lenTab (.str (Str.ofString "joins"))) = M.one (.d (.int 2)) := l_tabIx tab_joins
theorem tab_alone : tabAt lenTab (Str.ofString "alone") = some 2 := by decide +kernel
theorem inA_alone : M.lift (fIn (.str (Str.ofString "alone")) (.tup [.str (Str.ofString "fills"), .str (Str.ofString "twice"), .str (Str.ofString "never")])) = M.one (.d (.bl false)) := l_inStr (ss := wLots) (by decide +kernel)
theorem inB_alone : M.lift (fIn (.str (Str.ofString "alone")) (.tup [.str (Str.ofString "joins"), .str (Str.ofString "alone")])) = M.one (.d (.bl true)) := l_inStr (ss := wLists) (by decide +kernel)
theorem ok_alone : PyData.strOk (Str.ofString "alone") = true := by decide +kernel
theorem tabI_alone : M.lift (fTabIn true lenTab (.str (Str.ofString "alone"))) = M.one (.d (.bl false)) := by rw [l_tabIn, tab_alone]; rfl
theorem tabX_alone : M.lift (fTabIx lenTab (.str (Str.ofString "alone"))) = M.one (.d (.int 2)) := l_tabIx tab_alone
theorem tab_written : tabAt lenTab (Str.ofString "written") = some 4 := by decide +kernel
theorem inA_written : M.lift (fIn (.str (Str.ofString "written")) (.tup [.str (Str.ofString "fills"), .str (Str.ofString "twice"), .str (Str.ofString "never")])) = M.one (.d (.bl false)) := l_inStr (ss := wLots) (by decide +kernel)
theorem inB_written : M.lift (fIn (.str (Str.ofString "written")) (.tup [.str (Str.ofString "joins"), .str (Str.ofString "alone")])) = M.one (.d (.bl false)) := l_inStr (ss := wLists) (by decide +kernel)
theorem ok_written : PyData.strOk (Str.ofString "written") = true := by decide +kernel
theorem tabI_written : M.lift (fTabIn true lenTab (.str (Str.ofString "written"))) = M.one (.d (.bl false)) := by rw [l_tabIn, tab_written]; rfl
theorem tabX_written : M.lift (fTabIx lenTab (.str (Str.ofString "written"))) = M.one (.d (.int 4)) := l_tabIx tab_written
theorem tab_round : tabAt lenTab (Str.ofString "round") = some 3 := by decide +kernel
theorem inA_round : M.lift (fIn (.str (Str.ofString "round")) (.tup [.str (Str.ofString "fills"), .str (Str.ofString "twice"), .str (Str.ofString "never")])) = M.one (.d (.bl false)) := l_inStr (ss := wLots) (by decide +kernel)
theorem inB_round : M.lift (fIn (.str (Str.ofString "round")) (.tup [.str (Str.ofString "joins"), .str (Str.ofString "alone")])) = M.one (.d (.bl false)) := l_inStr (ss := wLists) (by decide +kernel)
theorem ok_round : PyData.strOk (Str.ofString "round") = true := by decide +kernel
theorem tabI_round : M.lift (fTabIn true lenTab (.str (Str.ofString "round"))) = M.one (.d (.bl false)) := by rw [l_tabIn, tab_round]; rfl
theorem tabX_round : M.lift (fTabIx lenTab (.str (Str.ofString "round"))) = M.one (.d (.int 3)) := l_tabIx tab_round
theorem tab_all : tabAt lenTab (Str.ofString "all") = some 3 := by decide +kernel
theorem inA_all : M.lift (fIn (.str (Str.ofString "all")) (.tup [.str (Str.ofString "fills"), .str (Str.ofString "twice"), .str (Str.ofString "never")])) = M.one (.d (.bl false)) := l_inStr (ss := wLots) (by decide +kernel)
theorem inB_all : M.lift (fIn (.str (Str.ofString "all")) (.tup [.str (Str.ofString "joins"), .str (Str.ofString "alone")])) = M.one (.d (.bl false)) := l_inStr (ss := wLists) (by decide +kernel)
theorem ok_all : PyData.strOk (Str.ofString "all") = true := by decide +kernel
theorem tabI_all : M.lift (fTabIn true lenTab (.str (Str.ofString "all"))) = M.one (.d (.bl false)) := by rw [l_tabIn, tab_all]; rfl
theorem tabX_all : M.lift (fTabIx lenTab (.str (Str.ofString "all"))) = M.one (.d (.int 3)) := l_tabIx tab_all
theorem claim_ne {ds : List D} {d : D} (h : ∀ x ∈ d :: ds, EqOk 59 x) : M.lift (fEq (.tup (d :: ds)) (.tup [])) = M.one (.d (.bl false)) := by
  rw [l_eqT0E (by rw [eqOk_tup (n := 59)]; exact h)]; rfl
@[simp] theorem out_badS {k : S → Sl → MS} : out (bindES (M.bad : ME S) k) = M.bad := rfl
theorem EqOk.up {d : D} {m n : Nat} (h : EqOk m d) (hn : m ≤ n) : EqOk n d := ⟨h.1, h.2.1, Nat.le_trans h.2.2 hn⟩
theorem bind_back (m : M (Oc S)) : (m.bind fun r => r.elim (fun a => val a) fun e => exn e) = m := M.ext fun μ P => by
  rw [wp_bind]
  congr 1
  funext r μ'
  cases r <;> rfl

/-- accepts(claim, certificate); slots: 0 claim, 1 certificate -/
def f_accepts_list : FM := fun _ => M.bad
@[simp] theorem dropped_accepts_list {ds : List D} : f_accepts_list ds = M.bad := rfl
def f_accepts_lot : FM := fun _ => M.bad
@[simp] theorem dropped_accepts_lot {ds : List D} : f_accepts_lot ds = M.bad := rfl
def b_accepts : SM := (mSeq (mIf (mOr (mNot (mB (mCallB fIsi (mCons (mVar 0) (mCons (mC (.v (.ty "tuple"))) mNil))))) (mOr (mB (mBin fEq (mVar 0) (mTup mNil))) (mNot (mB (mCallB fIsi (mCons (mIxV 0 (mC (.int 0))) (mCons (mC (.v (.ty "str"))) mNil))))))) (mRet (mC (.bl false))) mNext)
  (mSeq (mIf (mOr (mB (mUn (fTabIn true [((Str.ofString "fills"), 2), ((Str.ofString "twice"), 3), ((Str.ofString "never"), 3), ((Str.ofString "joins"), 2), ((Str.ofString "alone"), 2), ((Str.ofString "written"), 4), ((Str.ofString "round"), 3), ((Str.ofString "all"), 3)]) (mIxV 0 (mC (.int 0))))) (mB (mBin fNe (mCallB fLen (mCons (mVar 0) mNil)) (mUn (fTabIx [((Str.ofString "fills"), 2), ((Str.ofString "twice"), 3), ((Str.ofString "never"), 3), ((Str.ofString "joins"), 2), ((Str.ofString "alone"), 2), ((Str.ofString "written"), 4), ((Str.ofString "round"), 3), ((Str.ofString "all"), 3)]) (mIxV 0 (mC (.int 0))))))) (mRet (mC (.bl false))) mNext)
  (mSeq (mIf (mB (mBin fIn (mIxV 0 (mC (.int 0))) (mTup (mCons (mC (.str (Str.ofString "fills"))) (mCons (mC (.str (Str.ofString "twice"))) (mCons (mC (.str (Str.ofString "never"))) mNil)))))) (mRet mBadE) mNext)
  (mSeq (mIf (mB (mBin fIn (mIxV 0 (mC (.int 0))) (mTup (mCons (mC (.str (Str.ofString "joins"))) (mCons (mC (.str (Str.ofString "alone"))) mNil))))) (mRet mBadE) mNext)
  (mRet (mCall 2 f_accepts_base (mCons (mVar 0) (mCons (mVar 1) mNil))))))))
def f_accepts : FM := defM b_accepts [(Str.ofString "claim"), (Str.ofString "certificate")]
--@use claim
theorem accepts_fills {a d : D} (ha : EqOk 59 a) : f_accepts [.tup [.str (Str.ofString "fills"), a], d] = f_accepts_lot [.tup [.str (Str.ofString "fills"), a], d] := by
  have e0 : M.lift (fEq (.tup [.str (Str.ofString "fills"), a]) (.tup [])) = M.one (.d (.bl false)) := claim_ne fun x hx => by
    rcases List.mem_cons.mp hx with rfl | hx
    · exact eqOk_str.mpr ok_fills
    rcases List.mem_cons.mp hx with rfl | hx
    · exact ha
    exact absurd hx (by simp)
  have t1 := tabI_fills
  have t2 := tabX_fills
  have t3 := inA_fills
  have t4 := inB_fills
  first
    | ((conv => { lhs; simp -implicitDefEqProofs [l_neSelf, l_eqSelf, key_int, key_str, keyD, defM, initM, tail_mapS, take_mapS, drop_mapS, sl0, slI, lcAll_map, lcAll_rng, forL_map, forL_rng, -List.map_take, -List.map_drop, -List.map_tail, -List.map_reverse, f_accepts, b_accepts, e0, t1, t2, t3, t4] }); done)
    | ((conv => { lhs; simp -implicitDefEqProofs [l_neSelf, l_eqSelf, key_int, key_str, keyD, defM, initM, tail_mapS, take_mapS, drop_mapS, sl0, slI, lcAll_map, lcAll_rng, forL_map, forL_rng, -List.map_take, -List.map_drop, -List.map_tail, -List.map_reverse, f_accepts, b_accepts, e0, t1, t2, t3, t4] }); first | rfl | exact bind_back _)
theorem accepts_twice {a b d : D} (ha : EqOk 59 a) (hb : EqOk 59 b) : f_accepts [.tup [.str (Str.ofString "twice"), a, b], d] = f_accepts_lot [.tup [.str (Str.ofString "twice"), a, b], d] := by
  have e0 : M.lift (fEq (.tup [.str (Str.ofString "twice"), a, b]) (.tup [])) = M.one (.d (.bl false)) := claim_ne fun x hx => by
    rcases List.mem_cons.mp hx with rfl | hx
    · exact eqOk_str.mpr ok_twice
    rcases List.mem_cons.mp hx with rfl | hx
    · exact ha
    rcases List.mem_cons.mp hx with rfl | hx
    · exact hb
    exact absurd hx (by simp)
  have t1 := tabI_twice
  have t2 := tabX_twice
  have t3 := inA_twice
  have t4 := inB_twice
  first
    | ((conv => { lhs; simp -implicitDefEqProofs [l_neSelf, l_eqSelf, key_int, key_str, keyD, defM, initM, tail_mapS, take_mapS, drop_mapS, sl0, slI, lcAll_map, lcAll_rng, forL_map, forL_rng, -List.map_take, -List.map_drop, -List.map_tail, -List.map_reverse, f_accepts, b_accepts, e0, t1, t2, t3, t4] }); done)
    | ((conv => { lhs; simp -implicitDefEqProofs [l_neSelf, l_eqSelf, key_int, key_str, keyD, defM, initM, tail_mapS, take_mapS, drop_mapS, sl0, slI, lcAll_map, lcAll_rng, forL_map, forL_rng, -List.map_take, -List.map_drop, -List.map_tail, -List.map_reverse, f_accepts, b_accepts, e0, t1, t2, t3, t4] }); first | rfl | exact bind_back _)
theorem accepts_never {a b d : D} (ha : EqOk 59 a) (hb : EqOk 59 b) : f_accepts [.tup [.str (Str.ofString "never"), a, b], d] = f_accepts_lot [.tup [.str (Str.ofString "never"), a, b], d] := by
  have e0 : M.lift (fEq (.tup [.str (Str.ofString "never"), a, b]) (.tup [])) = M.one (.d (.bl false)) := claim_ne fun x hx => by
    rcases List.mem_cons.mp hx with rfl | hx
    · exact eqOk_str.mpr ok_never
    rcases List.mem_cons.mp hx with rfl | hx
    · exact ha
    rcases List.mem_cons.mp hx with rfl | hx
    · exact hb
    exact absurd hx (by simp)
  have t1 := tabI_never
  have t2 := tabX_never
  have t3 := inA_never
  have t4 := inB_never
  first
    | ((conv => { lhs; simp -implicitDefEqProofs [l_neSelf, l_eqSelf, key_int, key_str, keyD, defM, initM, tail_mapS, take_mapS, drop_mapS, sl0, slI, lcAll_map, lcAll_rng, forL_map, forL_rng, -List.map_take, -List.map_drop, -List.map_tail, -List.map_reverse, f_accepts, b_accepts, e0, t1, t2, t3, t4] }); done)
    | ((conv => { lhs; simp -implicitDefEqProofs [l_neSelf, l_eqSelf, key_int, key_str, keyD, defM, initM, tail_mapS, take_mapS, drop_mapS, sl0, slI, lcAll_map, lcAll_rng, forL_map, forL_rng, -List.map_take, -List.map_drop, -List.map_tail, -List.map_reverse, f_accepts, b_accepts, e0, t1, t2, t3, t4] }); first | rfl | exact bind_back _)
theorem accepts_joins {a d : D} (ha : EqOk 59 a) : f_accepts [.tup [.str (Str.ofString "joins"), a], d] = f_accepts_list [.tup [.str (Str.ofString "joins"), a], d] := by
  have e0 : M.lift (fEq (.tup [.str (Str.ofString "joins"), a]) (.tup [])) = M.one (.d (.bl false)) := claim_ne fun x hx => by
    rcases List.mem_cons.mp hx with rfl | hx
    · exact eqOk_str.mpr ok_joins
    rcases List.mem_cons.mp hx with rfl | hx
    · exact ha
    exact absurd hx (by simp)
  have t1 := tabI_joins
  have t2 := tabX_joins
  have t3 := inA_joins
  have t4 := inB_joins
  first
    | ((conv => { lhs; simp -implicitDefEqProofs [l_neSelf, l_eqSelf, key_int, key_str, keyD, defM, initM, tail_mapS, take_mapS, drop_mapS, sl0, slI, lcAll_map, lcAll_rng, forL_map, forL_rng, -List.map_take, -List.map_drop, -List.map_tail, -List.map_reverse, f_accepts, b_accepts, e0, t1, t2, t3, t4] }); done)
    | ((conv => { lhs; simp -implicitDefEqProofs [l_neSelf, l_eqSelf, key_int, key_str, keyD, defM, initM, tail_mapS, take_mapS, drop_mapS, sl0, slI, lcAll_map, lcAll_rng, forL_map, forL_rng, -List.map_take, -List.map_drop, -List.map_tail, -List.map_reverse, f_accepts, b_accepts, e0, t1, t2, t3, t4] }); first | rfl | exact bind_back _)
theorem accepts_alone {a d : D} (ha : EqOk 59 a) : f_accepts [.tup [.str (Str.ofString "alone"), a], d] = f_accepts_list [.tup [.str (Str.ofString "alone"), a], d] := by
  have e0 : M.lift (fEq (.tup [.str (Str.ofString "alone"), a]) (.tup [])) = M.one (.d (.bl false)) := claim_ne fun x hx => by
    rcases List.mem_cons.mp hx with rfl | hx
    · exact eqOk_str.mpr ok_alone
    rcases List.mem_cons.mp hx with rfl | hx
    · exact ha
    exact absurd hx (by simp)
  have t1 := tabI_alone
  have t2 := tabX_alone
  have t3 := inA_alone
  have t4 := inB_alone
  first
    | ((conv => { lhs; simp -implicitDefEqProofs [l_neSelf, l_eqSelf, key_int, key_str, keyD, defM, initM, tail_mapS, take_mapS, drop_mapS, sl0, slI, lcAll_map, lcAll_rng, forL_map, forL_rng, -List.map_take, -List.map_drop, -List.map_tail, -List.map_reverse, f_accepts, b_accepts, e0, t1, t2, t3, t4] }); done)
    | ((conv => { lhs; simp -implicitDefEqProofs [l_neSelf, l_eqSelf, key_int, key_str, keyD, defM, initM, tail_mapS, take_mapS, drop_mapS, sl0, slI, lcAll_map, lcAll_rng, forL_map, forL_rng, -List.map_take, -List.map_drop, -List.map_tail, -List.map_reverse, f_accepts, b_accepts, e0, t1, t2, t3, t4] }); first | rfl | exact bind_back _)
theorem accepts_written {a b n d : D} (ha : EqOk 59 a) (hb : EqOk 59 b) (hn : EqOk 59 n) : f_accepts [.tup [.str (Str.ofString "written"), a, b, n], d] = f_accepts_base [.tup [.str (Str.ofString "written"), a, b, n], d] := by
  have e0 : M.lift (fEq (.tup [.str (Str.ofString "written"), a, b, n]) (.tup [])) = M.one (.d (.bl false)) := claim_ne fun x hx => by
    rcases List.mem_cons.mp hx with rfl | hx
    · exact eqOk_str.mpr ok_written
    rcases List.mem_cons.mp hx with rfl | hx
    · exact ha
    rcases List.mem_cons.mp hx with rfl | hx
    · exact hb
    rcases List.mem_cons.mp hx with rfl | hx
    · exact hn
    exact absurd hx (by simp)
  have t1 := tabI_written
  have t2 := tabX_written
  have t3 := inA_written
  have t4 := inB_written
  first
    | ((conv => { lhs; simp -implicitDefEqProofs [l_neSelf, l_eqSelf, key_int, key_str, keyD, defM, initM, tail_mapS, take_mapS, drop_mapS, sl0, slI, lcAll_map, lcAll_rng, forL_map, forL_rng, -List.map_take, -List.map_drop, -List.map_tail, -List.map_reverse, f_accepts, b_accepts, e0, t1, t2, t3, t4] }); done)
    | ((conv => { lhs; simp -implicitDefEqProofs [l_neSelf, l_eqSelf, key_int, key_str, keyD, defM, initM, tail_mapS, take_mapS, drop_mapS, sl0, slI, lcAll_map, lcAll_rng, forL_map, forL_rng, -List.map_take, -List.map_drop, -List.map_tail, -List.map_reverse, f_accepts, b_accepts, e0, t1, t2, t3, t4] }); first | rfl | exact bind_back _)
theorem accepts_round {a b d : D} (ha : EqOk 59 a) (hb : EqOk 59 b) : f_accepts [.tup [.str (Str.ofString "round"), a, b], d] = f_accepts_base [.tup [.str (Str.ofString "round"), a, b], d] := by
  have e0 : M.lift (fEq (.tup [.str (Str.ofString "round"), a, b]) (.tup [])) = M.one (.d (.bl false)) := claim_ne fun x hx => by
    rcases List.mem_cons.mp hx with rfl | hx
    · exact eqOk_str.mpr ok_round
    rcases List.mem_cons.mp hx with rfl | hx
    · exact ha
    rcases List.mem_cons.mp hx with rfl | hx
    · exact hb
    exact absurd hx (by simp)
  have t1 := tabI_round
  have t2 := tabX_round
  have t3 := inA_round
  have t4 := inB_round
  first
    | ((conv => { lhs; simp -implicitDefEqProofs [l_neSelf, l_eqSelf, key_int, key_str, keyD, defM, initM, tail_mapS, take_mapS, drop_mapS, sl0, slI, lcAll_map, lcAll_rng, forL_map, forL_rng, -List.map_take, -List.map_drop, -List.map_tail, -List.map_reverse, f_accepts, b_accepts, e0, t1, t2, t3, t4] }); done)
    | ((conv => { lhs; simp -implicitDefEqProofs [l_neSelf, l_eqSelf, key_int, key_str, keyD, defM, initM, tail_mapS, take_mapS, drop_mapS, sl0, slI, lcAll_map, lcAll_rng, forL_map, forL_rng, -List.map_take, -List.map_drop, -List.map_tail, -List.map_reverse, f_accepts, b_accepts, e0, t1, t2, t3, t4] }); first | rfl | exact bind_back _)
theorem accepts_all {a b d : D} (ha : EqOk 59 a) (hb : EqOk 59 b) : f_accepts [.tup [.str (Str.ofString "all"), a, b], d] = f_accepts_base [.tup [.str (Str.ofString "all"), a, b], d] := by
  have e0 : M.lift (fEq (.tup [.str (Str.ofString "all"), a, b]) (.tup [])) = M.one (.d (.bl false)) := claim_ne fun x hx => by
    rcases List.mem_cons.mp hx with rfl | hx
    · exact eqOk_str.mpr ok_all
    rcases List.mem_cons.mp hx with rfl | hx
    · exact ha
    rcases List.mem_cons.mp hx with rfl | hx
    · exact hb
    exact absurd hx (by simp)
  have t1 := tabI_all
  have t2 := tabX_all
  have t3 := inA_all
  have t4 := inB_all
  first
    | ((conv => { lhs; simp -implicitDefEqProofs [l_neSelf, l_eqSelf, key_int, key_str, keyD, defM, initM, tail_mapS, take_mapS, drop_mapS, sl0, slI, lcAll_map, lcAll_rng, forL_map, forL_rng, -List.map_take, -List.map_drop, -List.map_tail, -List.map_reverse, f_accepts, b_accepts, e0, t1, t2, t3, t4] }); done)
    | ((conv => { lhs; simp -implicitDefEqProofs [l_neSelf, l_eqSelf, key_int, key_str, keyD, defM, initM, tail_mapS, take_mapS, drop_mapS, sl0, slI, lcAll_map, lcAll_rng, forL_map, forL_rng, -List.map_take, -List.map_drop, -List.map_tail, -List.map_reverse, f_accepts, b_accepts, e0, t1, t2, t3, t4] }); first | rfl | exact bind_back _)

/-- law_well(law_cells, law_turn); slots: 0 law_cells, 1 law_turn, 2 law_cell, 3 law_stirred, 4 law_each -/
def b_law_well : SM := (mSeq (mSet 2 (mIfE (mB (mBin fLt (mVar 1) (mCallB fLen (mCons (mVar 0) mNil)))) (mIxV 0 (mVar 1)) (mBin fAdd (mBin fMul (mC (.int 13)) (mVar 1)) (mC (.int 6)))))
  (mSeq (mSet 3 (mBin fAdd (mC (.int 50021)) (mBin fMul (mC (.int 6007)) (mVar 1))))
  (mSeq (mFor (mItems (mBin fAdd (mSl (mVar 0) mNoP (mPart (mC (.int 5)))) (mLst (mCons (mVar 2) mNil)))) (fName 4) (mSet 3 (mBin fMod (mCallB fInt (mCons (mBin fAdd (mBin fAdd (mBin fMul (mVar 3) (mC (.int 24611))) (mBin fMul (mVar 4) (mC (.int 7)))) (mC (.int 307))) mNil)) (mC (.int 2147483399)))) [4])
  (mRet (mLst (mCons (mIfE (mOr (mB (mBin fLt (mVar 2) (mC (.int 0)))) (mB (mBin fGe (mVar 2) (mBin fPow (mC (.int 10)) (mC (.int 18)))))) (mCallB fAbs (mCons (mVar 2) mNil)) (mC (.int 0))) (mCons (mVar 3) (mCons (mC (.int 0)) mNil))))))))
def f_law_well : FM := defM b_law_well [(Str.ofString "_law_cells"), (Str.ofString "_law_turn"), (Str.ofString "_law_cell"), (Str.ofString "_law_stirred"), (Str.ofString "_law_each")]
def p_law_well : FM := fun ds => (val (.d .jar)).req (∃ (ns : List Int) (k : Int), ds = [.rls (ns.map .int), .int k] ∧ (0 ≤ k ∧ k < 1000) ∧ ns.length ≤ 63)
@[simp] theorem law_well_eq {ns : List Int} {k : Int} (h : 0 ≤ k ∧ k < 1000) (hn : ns.length ≤ 63) : p_law_well [.rls (ns.map .int), .int k] = val (.d .jar) := req_of ⟨ns, k, rfl, h, hn⟩
theorem j_law_well : ∀ (ds : List D) (μ : Mem) (P : Oc S → Mem → Prop), ds.length = 2 → (p_law_well ds).wp μ P → (f_law_well ds).wp μ fun r μ => ∃ x y z : Int, r = .v (.own [.int x, .int y, .int z]) ∧ (-(2 ^ 40) < y ∧ y < 2 ^ 40) ∧ P (.v (.d .jar)) μ := by
  intro ds μ P _ q
  refine j_of ?_ q
  clear q
  rintro ⟨ns, k, rfl, hk, hn⟩
  have hf : ∀ a : Int, -1099511627776 < a.fmod 2147483399 ∧ a.fmod 2147483399 < 1099511627776 := fun a => by
    have := fmod_pos (a := a) (b := 2147483399) (by decide); omega
  simp -implicitDefEqProofs [l_neSelf, l_eqSelf, key_int, key_str, keyD, defM, initM, tail_mapS, take_mapS, drop_mapS, sl0, slI, lcAll_map, lcAll_rng, forL_map, forL_rng, -List.map_take, -List.map_drop, -List.map_tail, -List.map_reverse, f_law_well, b_law_well]
  by_cases c0 : k < (ns.length : Int)
  · have := ixM_in (g := D.int) hk.1 c0
    generalize nth ns k.toNat = own at this
    simp -implicitDefEqProofs [l_neSelf, l_eqSelf, key_int, key_str, keyD, defM, initM, tail_mapS, take_mapS, drop_mapS, sl0, slI, lcAll_map, lcAll_rng, forL_map, forL_rng, -List.map_take, -List.map_drop, -List.map_tail, -List.map_reverse, c0, this]
    refine ⟨⟨mulOk_l ⟨by omega, by omega⟩, by omega⟩, ?_⟩
    rw [show List.map D.int (List.take 5 ns) ++ [D.int own] = (List.take 5 ns ++ [own]).map D.int by simp, forL_map]
    refine sat_for (fun _ ρ => ∃ y : Int, (-1099511627776 < y ∧ y < 1099511627776) ∧ ρ = [some (.d (.rls (ns.map .int))), some (.d (.int k)), some (.d (.int own)), some (.d (.int y)), none]) ⟨_, ⟨by omega, by omega⟩, rfl⟩ ?_ ?_
    · rintro a l' ρ ⟨y, hy, rfl⟩
      simp -implicitDefEqProofs [l_neSelf, l_eqSelf, key_int, key_str, keyD, defM, initM, tail_mapS, take_mapS, drop_mapS, sl0, slI, lcAll_map, lcAll_rng, forL_map, forL_rng, -List.map_take, -List.map_drop, -List.map_tail, -List.map_reverse]
      exact ⟨⟨mulOk_l ⟨by omega, by omega⟩, mulOk_r ⟨by omega, by omega⟩⟩, hf _⟩
    · rintro ρ ⟨y, hy, rfl⟩
      by_cases c1 : own < 0
      · simp -implicitDefEqProofs [l_neSelf, l_eqSelf, key_int, key_str, keyD, defM, initM, tail_mapS, take_mapS, drop_mapS, sl0, slI, lcAll_map, lcAll_rng, forL_map, forL_rng, -List.map_take, -List.map_drop, -List.map_tail, -List.map_reverse, c1]
        exact ⟨_, _, ⟨rfl, rfl⟩, hy⟩
      · by_cases c2 : 1000000000000000000 ≤ own
        · simp -implicitDefEqProofs [l_neSelf, l_eqSelf, key_int, key_str, keyD, defM, initM, tail_mapS, take_mapS, drop_mapS, sl0, slI, lcAll_map, lcAll_rng, forL_map, forL_rng, -List.map_take, -List.map_drop, -List.map_tail, -List.map_reverse, c1, c2]
          exact ⟨_, _, ⟨rfl, rfl⟩, hy⟩
        · simp -implicitDefEqProofs [l_neSelf, l_eqSelf, key_int, key_str, keyD, defM, initM, tail_mapS, take_mapS, drop_mapS, sl0, slI, lcAll_map, lcAll_rng, forL_map, forL_rng, -List.map_take, -List.map_drop, -List.map_tail, -List.map_reverse, c1, c2]
          exact ⟨_, _, ⟨rfl, rfl⟩, hy⟩
  · simp -implicitDefEqProofs [l_neSelf, l_eqSelf, key_int, key_str, keyD, defM, initM, tail_mapS, take_mapS, drop_mapS, sl0, slI, lcAll_map, lcAll_rng, forL_map, forL_rng, -List.map_take, -List.map_drop, -List.map_tail, -List.map_reverse, c0]
    refine ⟨⟨mulOk_l ⟨by omega, by omega⟩, mulOk_l ⟨by omega, by omega⟩, by omega⟩, ?_⟩
    rw [show List.map D.int (List.take 5 ns) ++ [D.int (13 * k + 6)] = (List.take 5 ns ++ [(13 * k + 6)]).map D.int by simp, forL_map]
    refine sat_for (fun _ ρ => ∃ y : Int, (-1099511627776 < y ∧ y < 1099511627776) ∧ ρ = [some (.d (.rls (ns.map .int))), some (.d (.int k)), some (.d (.int (13 * k + 6))), some (.d (.int y)), none]) ⟨_, ⟨by omega, by omega⟩, rfl⟩ ?_ ?_
    · rintro a l' ρ ⟨y, hy, rfl⟩
      simp -implicitDefEqProofs [l_neSelf, l_eqSelf, key_int, key_str, keyD, defM, initM, tail_mapS, take_mapS, drop_mapS, sl0, slI, lcAll_map, lcAll_rng, forL_map, forL_rng, -List.map_take, -List.map_drop, -List.map_tail, -List.map_reverse]
      exact ⟨⟨mulOk_l ⟨by omega, by omega⟩, mulOk_r ⟨by omega, by omega⟩⟩, hf _⟩
    · rintro ρ ⟨y, hy, rfl⟩
      by_cases c1 : (13 * k + 6) < 0
      · simp -implicitDefEqProofs [l_neSelf, l_eqSelf, key_int, key_str, keyD, defM, initM, tail_mapS, take_mapS, drop_mapS, sl0, slI, lcAll_map, lcAll_rng, forL_map, forL_rng, -List.map_take, -List.map_drop, -List.map_tail, -List.map_reverse, c1]
        exact ⟨_, _, ⟨rfl, rfl⟩, hy⟩
      · by_cases c2 : 1000000000000000000 ≤ (13 * k + 6)
        · simp -implicitDefEqProofs [l_neSelf, l_eqSelf, key_int, key_str, keyD, defM, initM, tail_mapS, take_mapS, drop_mapS, sl0, slI, lcAll_map, lcAll_rng, forL_map, forL_rng, -List.map_take, -List.map_drop, -List.map_tail, -List.map_reverse, c1, c2]
          exact ⟨_, _, ⟨rfl, rfl⟩, hy⟩
        · simp -implicitDefEqProofs [l_neSelf, l_eqSelf, key_int, key_str, keyD, defM, initM, tail_mapS, take_mapS, drop_mapS, sl0, slI, lcAll_map, lcAll_rng, forL_map, forL_rng, -List.map_take, -List.map_drop, -List.map_tail, -List.map_reverse, c1, c2]
          exact ⟨_, _, ⟨rfl, rfl⟩, hy⟩

/-- law_dip(law_well_here, law_sides); slots: 0 law_well_here, 1 law_sides, 2 law_digit, 3 law_by -/
def b_law_dip : SM := (mSeq (mSetIx 0 (mC (.int 2)) (mBin fAdd (mIxV 0 (mC (.int 2))) (mC (.int 1))))
  (mSeq (mIf (mB (mBin fGt (mIxV 0 (mC (.int 0))) (mC (.int 0)))) (mSeq (mAsgJ 0 2 0 (mCallB fDivmod (mCons (mIxV 0 (mC (.int 0))) (mCons (mVar 1) mNil))))
  (mRet (mVar 2))) mNext)
  (mSeq (mSet 3 (mBin fAdd (mC (.int 20011)) (mBin fMul (mC (.int 2)) (mIxV 0 (mC (.int 2))))))
  (mSeq (mSetIx 0 (mC (.int 1)) (mBin fMod (mCallB fInt (mCons (mBin fAdd (mBin fAdd (mBin fMul (mIxV 0 (mC (.int 1))) (mVar 3)) (mBin fMul (mC (.int 70001)) (mIxV 0 (mC (.int 2))))) (mC (.int 1))) mNil)) (mC (.int 2147483399))))
  (mRet (mBin fMod (mCallB fInt (mCons (mBin fDiv (mIxV 0 (mC (.int 1))) (mC (.int 640))) mNil)) (mVar 1)))))))
def f_law_dip : FM := defM b_law_dip [(Str.ofString "_law_well_here"), (Str.ofString "_law_sides"), (Str.ofString "_law_digit"), (Str.ofString "_law_by")]
def p_law_dip : FM := fun ds => match ds with
  | [.jar, .int w] => ((M.any fun i : Int => 0 ≤ i ∧ i < w).bind fun i => val (.d (.int i))).req (0 < w ∧ w < 10 ^ 41)
  | _ => M.bad
@[simp] theorem law_dip_eq {w : Int} : p_law_dip [.jar, .int w] = ((M.any fun i : Int => 0 ≤ i ∧ i < w).bind fun i => val (.d (.int i))).req (0 < w ∧ w < 10 ^ 41) := rfl
theorem dip_div {w : Int} (h : 0 < w ∧ w < 10 ^ 41) (a : Int) : DivOk a w := divOk_w 140 h.1 (by omega) (by decide) (by decide)
theorem dip_dm {w : Int} (h : 0 < w ∧ w < 10 ^ 41) (a : Int) : CDivW a w := by
  have hl : w.natAbs < 2 ^ 140 := by omega
  have := log_of hl (by decide)
  exact ⟨h.1, by omega⟩
theorem o_law_dip : ∀ ds : List D, ds.length = 2 → (f_law_dip ds).le (p_law_dip ds) := by
  intro ds _ μ P h
  unfold p_law_dip at h
  split at h
  · rename_i w _
    obtain ⟨hw, h⟩ := h
    have hp : ∀ i : Int, 0 ≤ i → i < w → P (.v (.d (.int i))) μ := fun i h1 h2 => h i ⟨h1, h2⟩
    have hm : ∀ a : Int, 0 ≤ a.fmod w ∧ a.fmod w < w := fun a => fmod_pos hw.1
    have hm2 : ∀ a : Int, 0 ≤ a % w ∧ a % w < w := fun a => ⟨Int.emod_nonneg _ (by omega), Int.emod_lt_of_pos _ hw.1⟩
    have hf : ∀ a : Int, -1099511627776 < a.fmod 2147483399 ∧ a.fmod 2147483399 < 1099511627776 := fun a => by
      have := fmod_pos (a := a) (b := 2147483399) (by decide); omega
    simp -implicitDefEqProofs [l_neSelf, l_eqSelf, key_int, key_str, keyD, defM, initM, tail_mapS, take_mapS, drop_mapS, sl0, slI, lcAll_map, lcAll_rng, forL_map, forL_rng, -List.map_take, -List.map_drop, -List.map_tail, -List.map_reverse, f_law_dip, b_law_dip]
    intro a
    by_cases c : 0 < a
    · simp -implicitDefEqProofs [l_neSelf, l_eqSelf, key_int, key_str, keyD, defM, initM, tail_mapS, take_mapS, drop_mapS, sl0, slI, lcAll_map, lcAll_rng, forL_map, forL_rng, -List.map_take, -List.map_drop, -List.map_tail, -List.map_reverse, c]
      exact fun b => ⟨dip_dm hw _, hp _ (hm2 _).1 (hm2 _).2⟩
    · simp -implicitDefEqProofs [l_neSelf, l_eqSelf, key_int, key_str, keyD, defM, initM, tail_mapS, take_mapS, drop_mapS, sl0, slI, lcAll_map, lcAll_rng, forL_map, forL_rng, -List.map_take, -List.map_drop, -List.map_tail, -List.map_reverse, c]
      refine fun z => ⟨by walk_at "side", fun y y1 y2 => ⟨mulOk_l ⟨by omega, by omega⟩, fun z2 => ⟨⟨by walk_at "side", hf _⟩, fun y3 h3 h4 => ⟨⟨by walk_at "side", by omega⟩, hp _ (hm _).1 (hm _).2⟩⟩⟩⟩
  · exact h.elim

/-- law_one_of(law_well_here, law_some); slots: 0 law_well_here, 1 law_some -/
def b_law_one_of : SM := (mRet (mIxV 1 (mCall 2 p_law_dip (mCons (mVar 0) (mCons (mCallB fLen (mCons (mVar 1) mNil)) mNil)))))
def f_law_one_of : FM := defM b_law_one_of [(Str.ofString "_law_well_here"), (Str.ofString "_law_some")]
def p_law_one_of : FM := fun ds => match ds with
  | [.jar, .lst es] => ((M.any fun d : D => d ∈ es).bind fun d => val (.d d)).req (0 < es.length ∧ es.length < 1000000)
  | [.jar, .tup es] => ((M.any fun d : D => d ∈ es).bind fun d => val (.d d)).req (0 < es.length ∧ es.length < 1000000)
  | _ => M.bad
@[simp] theorem law_one_of_eq {es : List D} : p_law_one_of [.jar, .lst es] = ((M.any fun d : D => d ∈ es).bind fun d => val (.d d)).req (0 < es.length ∧ es.length < 1000000) := rfl
@[simp] theorem law_one_of_eqT {es : List D} : p_law_one_of [.jar, .tup es] = ((M.any fun d : D => d ∈ es).bind fun d => val (.d d)).req (0 < es.length ∧ es.length < 1000000) := rfl
theorem o_law_one_of : ∀ ds : List D, ds.length = 2 → (f_law_one_of ds).le (p_law_one_of ds) := by
  intro ds _
  unfold p_law_one_of
  split
  · rename_i es _
    refine le_any fun h => ?_
    simp -implicitDefEqProofs [l_neSelf, l_eqSelf, key_int, key_str, keyD, defM, initM, tail_mapS, take_mapS, drop_mapS, sl0, slI, lcAll_map, lcAll_rng, forL_map, forL_rng, -List.map_take, -List.map_drop, -List.map_tail, -List.map_reverse, f_law_one_of, b_law_one_of]
    refine ⟨⟨h.1, by omega⟩, fun a h0 h1 => ?_⟩
    obtain ⟨d, hd, e⟩ := ixM_mem h0 h1
    simp -implicitDefEqProofs [l_neSelf, l_eqSelf, key_int, key_str, keyD, defM, initM, tail_mapS, take_mapS, drop_mapS, sl0, slI, lcAll_map, lcAll_rng, forL_map, forL_rng, -List.map_take, -List.map_drop, -List.map_tail, -List.map_reverse, e, hd]
  · rename_i es _
    refine le_any fun h => ?_
    simp -implicitDefEqProofs [l_neSelf, l_eqSelf, key_int, key_str, keyD, defM, initM, tail_mapS, take_mapS, drop_mapS, sl0, slI, lcAll_map, lcAll_rng, forL_map, forL_rng, -List.map_take, -List.map_drop, -List.map_tail, -List.map_reverse, f_law_one_of, b_law_one_of]
    refine ⟨⟨h.1, by omega⟩, fun a h0 h1 => ?_⟩
    obtain ⟨d, hd, e⟩ := ixM_mem h0 h1
    simp -implicitDefEqProofs [l_neSelf, l_eqSelf, key_int, key_str, keyD, defM, initM, tail_mapS, take_mapS, drop_mapS, sl0, slI, lcAll_map, lcAll_rng, forL_map, forL_rng, -List.map_take, -List.map_drop, -List.map_tail, -List.map_reverse, e, hd]
  · exact fun _ _ h => h.elim
theorem one_of_I {ns : List Int} (h : 0 < ns.length ∧ ns.length < 1000000) : p_law_one_of [.jar, .lst (ns.map .int)] = (M.any fun x : Int => x ∈ ns).bind fun x => val (.d (.int x)) := by
  rw [law_one_of_eq, req_of (by simpa using h)]
  refine M.ext fun μ P => propext ⟨fun h f hf => h (.int f) (List.mem_map.mpr ⟨f, hf, rfl⟩), fun h d hd => ?_⟩
  obtain ⟨f, hf, rfl⟩ := List.mem_map.mp hd
  exact h f hf
theorem one_of_T {fs : List Int} (h : 0 < fs.length ∧ fs.length < 1000000) : p_law_one_of [.jar, tI fs] = (M.any fun f : Int => f ∈ fs).bind fun f => val (.d (.int f)) := by
  rw [law_one_of_eqT, req_of (by simpa using h)]
  refine M.ext fun μ P => propext ⟨fun h f hf => h (.int f) (List.mem_map.mpr ⟨f, hf, rfl⟩), fun h d hd => ?_⟩
  obtain ⟨f, hf, rfl⟩ := List.mem_map.mp hd
  exact h f hf
/-- a drawn thing, whatever it is -/
theorem one_of_any {es : List D} (h : 0 < es.length ∧ es.length < 1000000) : p_law_one_of [.jar, .lst es] = (M.any fun d : D => d ∈ es).bind fun d => val (.d d) := by
  rw [law_one_of_eq, req_of h]

--@use tab
/-- one of each list -/
def RowOf : List (List Int) → List Int → Prop
  | [], [] => True
  | l :: ls, n :: r => n ∈ l ∧ RowOf ls r
  | _, _ => False
theorem tab1_keys {w b x : Int} : ∀ {ns : List Int} {l : List (Int × Int)}, x ∈ (tab1 w b ns l).map (·.1) ↔ x ∈ l.map (·.1) ∨ ∃ n ∈ ns, b + n = x
  | [], l => by simp [tab1]
  | n :: ns, l => by
    show x ∈ (tab1 w b ns (putI l (b + n) _)).map (·.1) ↔ _
    rw [tab1_keys, putI_keys]
    constructor
    · rintro ((rfl | h) | ⟨m, h1, h2⟩)
      · exact .inr ⟨n, List.mem_cons_self .., rfl⟩
      · exact .inl h
      · exact .inr ⟨m, List.mem_cons_of_mem _ h1, h2⟩
    · rintro (h | ⟨m, h1, h2⟩)
      · exact .inl (.inr h)
      · rcases List.mem_cons.mp h1 with rfl | h1
        · exact .inl (.inl h2.symm)
        · exact .inr ⟨m, h1, h2⟩
theorem tab2_keysG {ns : List Int} {x : Int} : ∀ {m l : List (Int × Int)}, x ∈ (m.foldl (fun l p => tab1 p.2 p.1 ns l) l).map (·.1) ↔ x ∈ l.map (·.1) ∨ ∃ k ∈ m.map (·.1), ∃ n ∈ ns, k + n = x
  | [], l => by simp
  | p :: m, l => by
    rw [List.foldl_cons, tab2_keysG, tab1_keys, List.map_cons]
    constructor
    · rintro ((h | ⟨n, h1, h2⟩) | ⟨k, h1, n, h2, h3⟩)
      · exact .inl h
      · exact .inr ⟨p.1, List.mem_cons_self .., n, h1, h2⟩
      · exact .inr ⟨k, List.mem_cons_of_mem _ h1, n, h2, h3⟩
    · rintro (h | ⟨k, h1, n, h2, h3⟩)
      · exact .inl (.inl h)
      · rcases List.mem_cons.mp h1 with rfl | h1
        · exact .inl (.inr ⟨n, h2, h3⟩)
        · exact .inr ⟨k, h1, n, h2, h3⟩
theorem tab2_keys {ns : List Int} {x : Int} {m : List (Int × Int)} : x ∈ (tab2 m ns).map (·.1) ↔ ∃ k ∈ m.map (·.1), ∃ n ∈ ns, k + n = x := by
  unfold tab2; rw [tab2_keysG]; simp
theorem table_keysG {x : Int} : ∀ {ls : List (List Int)} {m : List (Int × Int)}, x ∈ (ls.foldl tab2 m).map (·.1) ↔ ∃ k ∈ m.map (·.1), ∃ r, RowOf ls r ∧ k + r.sum = x
  | [], m => by
    constructor
    · exact fun h => ⟨x, h, [], trivial, by simp⟩
    · rintro ⟨k, h, r, hr, e⟩
      cases r with
      | nil => simp at e; rw [← e]; exact h
      | cons a r => exact hr.elim
  | l :: ls, m => by
    rw [List.foldl_cons, table_keysG]
    constructor
    · rintro ⟨k, hk, r, hr, e⟩
      obtain ⟨k', hk', n, hn, e'⟩ := tab2_keys.mp hk
      exact ⟨k', hk', n :: r, ⟨hn, hr⟩, by rw [List.sum_cons]; omega⟩
    · rintro ⟨k, hk, r, hr, e⟩
      cases r with
      | nil => exact hr.elim
      | cons n r => exact ⟨k + n, tab2_keys.mpr ⟨k, hk, n, hr.1, rfl⟩, r, hr.2, by rw [List.sum_cons] at e; omega⟩
theorem table_keys {x : Int} {ls : List (List Int)} : x ∈ (tableL ls).map (·.1) ↔ ∃ r, RowOf ls r ∧ r.sum = x := by
  unfold tableL; rw [table_keysG]
  constructor
  · rintro ⟨k, hk, r, hr, e⟩
    simp at hk; subst hk
    exact ⟨r, hr, by omega⟩
  · rintro ⟨r, hr, e⟩
    exact ⟨0, by simp, r, hr, by omega⟩
theorem row_bound {B : Int} : ∀ {ls : List (List Int)} {r : List Int}, (∀ l ∈ ls, ∀ x ∈ l, -B < x ∧ x < B) → RowOf ls r → -(B * ls.length) ≤ r.sum ∧ r.sum ≤ B * ls.length
  | [], [], _, _ => by simp
  | [], _ :: _, _, h => h.elim
  | _ :: _, [], _, h => h.elim
  | l :: ls, n :: r, h, hr => by
    have ih := row_bound (B := B) (ls := ls) (r := r) (fun l hl => h l (List.mem_cons_of_mem _ hl)) hr.2
    have hn := h l (List.mem_cons_self ..) n hr.1
    rw [List.sum_cons, List.length_cons]
    push_cast
    rw [Int.mul_add, Int.mul_one]
    omega
theorem sumsL_mem {x : Int} {ls : List (List Int)} : x ∈ sumsL ls ↔ ∃ r, RowOf ls r ∧ r.sum = x := by unfold sumsL; rw [isort_mem, table_keys]
theorem sorted_nodup : ∀ {l : List Int}, l.Pairwise (· ≤ ·) → l.Nodup → Asc l
  | [], _, _ => .nil
  | a :: l, h, n => by
    rw [List.pairwise_cons] at h
    rw [List.nodup_cons] at n
    exact List.pairwise_cons.mpr ⟨fun b hb => Int.lt_iff_le_and_ne.mpr ⟨h.1 b hb, fun z => n.1 (by rw [z]; exact hb)⟩, sorted_nodup h.2 n.2⟩
theorem sumsL_asc {ls : List (List Int)} : Asc (sumsL ls) := sorted_nodup (isort_sorted _) ((isort_perm _).nodup_iff.mpr table_nodup)
theorem sm_bound {ls : List (List Int)} (h : LotSm ls) {x : Int} (hx : x ∈ sumsL ls) : -(10 ^ 32) < x ∧ x < 10 ^ 32 := by
  obtain ⟨r, hr, rfl⟩ := sumsL_mem.mp hx
  have := row_bound (B := 10 ^ 30) h.2.2.2 hr
  have h4 := h.2.2.1
  have : (10 ^ 30 : Int) * (ls.length : Int) ≤ 10 ^ 30 * 4 := Int.mul_le_mul_of_nonneg_left (by omega) (by decide)
  omega
/-- the first of an ascending list is the least -/
theorem min_head {a b : List Int} (h : a.Pairwise (· ≤ ·)) (m : ∀ x, x ∈ a ↔ x ∈ b) : (if a = [] then none else some (nth a 0)) = minO b := by
  unfold minO
  cases a with
  | nil =>
    have : b = [] := List.eq_nil_iff_forall_not_mem.mpr fun x hx => by have := (m x).mpr hx; cases this
    rw [if_pos rfl, if_pos this]
  | cons y a =>
    have hb : b ≠ [] := fun z => by have := (m y).mp (List.mem_cons_self ..); rw [z] at this; cases this
    rw [if_neg (by simp), if_neg hb]
    obtain ⟨h1, h2⟩ := minL_spec hb
    have h3 := h2 y ((m y).mp (List.mem_cons_self ..))
    have h4 : nth (y :: a) 0 = y := rfl
    rw [h4]
    rcases List.mem_cons.mp ((m _).mpr h1) with e | e
    · rw [e]
    · have := (List.pairwise_cons.mp h).1 _ e
      congr 1; omega
theorem filter_head {α : Type} [Inhabited α] {p : α → Bool} {l : List α} : (if l.filter p = [] then none else some (nth (l.filter p) 0)) = l.find? p := by
  induction l with
  | nil => rfl
  | cons a l ih =>
    rw [List.filter_cons, List.find?_cons]
    cases q : p a with
    | true => simp [nth]
    | false => simpa using ih
theorem okR_non : (D.lst [.non, .non]).okRepr := (rp_lst (n := 1) (w := 0) fun d hd => by simp at hd; rw [hd]; exact rp_non).ok (by decide) (by decide)
theorem okR_int {i j : Int} (h : -(2 ^ 199) < i ∧ i < 2 ^ 199) (h' : -(2 ^ 199) < j ∧ j < 2 ^ 199) : (D.lst [.int i, .int j]).okRepr := (rp_lst (n := 1) (w := 200) fun d hd => by
  simp at hd
  rcases hd with rfl | rfl <;> refine rp_int ?_ <;> omega).ok (by decide) (by simp)
theorem okR_bl4 {a b c e : Bool} : (D.lst [.bl a, .bl b, .bl c, .bl e]).okRepr := (rp_lst (n := 1) (w := 0) fun d hd => by
  simp at hd
  rcases hd with rfl | rfl | rfl | rfl <;> exact rp_bl).ok (by decide) (by simp)

--@use base sum
/-- figures for so many rests -/
structure SignsOk (q : Nat) (fs : List Int) : Prop where
  asc : Asc fs
  len : fs.length = q
  bnd : ∀ f ∈ fs, -500 ≤ f ∧ f ≤ 500
  inj : ∀ f ∈ fs, ∀ g ∈ fs, f % (q : Int) = g % (q : Int) → f = g
  zero : (0 : Int) ∈ fs
theorem SignsOk.base {q : Nat} {fs : List Int} (h : SignsOk q fs) {p : Int} (hp : p = (q : Int) ∨ p = -(q : Int)) (h2 : 2 ≤ q ∧ q ≤ 40) : BaseOk p fs := by
  have e : p.natAbs = q := by omega
  exact ⟨by omega, h.asc, by rw [e]; exact h.len, fun f hf => by have := h.bnd f hf; omega, by rw [e]; exact h.inj, h.zero⟩
/-- figures as they were drawn, each with its rest -/
theorem signs_fin {q : Nat} {zs : List Int} (hz : ∀ k, k < zs.length → nth zs k % (q : Int) = (k : Int) ∧ -500 ≤ nth zs k ∧ nth zs k ≤ 500) (hzl : zs.length = q) (hz0 : (0 : Int) ∈ zs) : SignsOk q (isort zs) := by
  have hp : (isort zs).Perm zs := isort_perm _
  have hnd : zs.Nodup := by
    refine List.pairwise_iff_getElem.mpr fun i j hi hj hij e => ?_
    have a := (hz i hi).1
    have b := (hz j hj).1
    rw [nth_lt hi] at a
    rw [nth_lt hj] at b
    rw [e] at a
    omega
  exact ⟨sorted_nodup (isort_sorted _) (hp.nodup_iff.mpr hnd), by rw [isort_length, hzl], fun f hf => by
    obtain ⟨k, hk, rfl⟩ := mem_nth (hp.mem_iff.mp hf)
    exact (hz k hk).2, fun f hf g hg e => by
    obtain ⟨k, hk, rfl⟩ := mem_nth (hp.mem_iff.mp hf)
    obtain ⟨j, hj, rfl⟩ := mem_nth (hp.mem_iff.mp hg)
    have a := (hz k hk).1
    have b := (hz j hj).1
    have : k = j := by omega
    rw [this], hp.mem_iff.mpr hz0⟩
theorem paired_get {α β : Type} {R : α → β → Prop} : ∀ {xs : List α} {ys : List β}, Paired R xs ys → ∀ (k : Nat) (hx : k < xs.length) (hy : k < ys.length), R xs[k] ys[k]
  | _, _, .nil, _, hx, _ => by simp at hx
  | _, _, .cons h _, 0, _, _ => h
  | _, _, .cons _ h2, k + 1, hx, hy => paired_get h2 k (by simpa using hx) (by simpa using hy)

--@use signs rowr
theorem tI_inj2 {a b : List Int} (h : tI a = tI b) : a = b := by
  injection h with h
  have : ∀ {l m : List Int}, l.map D.int = m.map D.int → l = m := fun {l m} e => by
    induction l generalizing m with
    | nil => cases m with | nil => rfl | cons _ _ => cases e
    | cons x l ih => cases m with
      | nil => cases e
      | cons y m =>
        injection e with e1 e2
        injection e1 with e1
        rw [e1, ih e2]
  exact this h
def WBase (d : Int × List Int) : Prop := ∃ q : Nat, (2 ≤ q ∧ q ≤ 10) ∧ (d.1 = (q : Int) ∨ d.1 = -(q : Int)) ∧ SignsOk q d.2
theorem WBase.base {d : Int × List Int} (h : WBase d) : BaseOk d.1 d.2 := by
  obtain ⟨q, h1, h2, h3⟩ := h
  exact h3.base h2 (by omega)
/-- two values that are no base -/
def OddB (x : D × D) : Prop := EqOk 59 x.1 ∧ EqOk 59 x.2 ∧ ((x.1.known = true ∧ inB 2 40 x.1 = false ∧ inB (-40) (-2) x.1 = false) ∨
  ∃ p : Int, x.1 = .int p ∧ ((2 ≤ p ∧ p ≤ 40) ∨ (-40 ≤ p ∧ p ≤ -2)) ∧ RowD x.2 ∧ ¬ ∃ fs, x.2 = tI fs ∧ BaseOk p fs)
theorem odd_num {n v : D} (h1 : n.known = true) (h2 : inB 2 40 n = false) (h3 : inB (-40) (-2) n = false) (e1 : EqOk 59 n) (e2 : EqOk 59 v) : OddB (n, v) := ⟨e1, e2, .inl ⟨h1, h2, h3⟩⟩
theorem eqOk_tI {n : Nat} {ns : List Int} : EqOk (n + 1) (tI ns) := by
  rw [eqOk_tup]
  intro x hx
  obtain ⟨i, _, rfl⟩ := List.mem_map.mp hx
  exact eqOk_int
theorem rowD_tI {ns : List Int} (h : ns.length ≤ 90) : RowD (tI ns) := .tup (by rw [List.length_map]; exact h) fun x hx => by
  obtain ⟨i, _, rfl⟩ := List.mem_map.mp hx
  rfl
theorem odd_figs {p : Int} {ns : List Int} (hp : (2 ≤ p ∧ p ≤ 40) ∨ (-40 ≤ p ∧ p ≤ -2)) (hl : ns.length ≤ 90) (h : ¬ BaseOk p ns) : OddB (.int p, tI ns) :=
  ⟨eqOk_int, eqOk_tI, .inr ⟨p, rfl, hp, rowD_tI hl, fun ⟨fs, e, hb⟩ => h (tI_inj2 e ▸ hb)⟩⟩

/-- law_base(law_well_here); slots: 0 law_well_here, 1 law_high, 2 law_number_here, 3 law_wide, 4 law_found, 5 law_k -/
def b_law_base : SM := (mSeq (mSet 1 (mCall 2 p_law_one_of (mCons (mVar 0) (mCons (mLst (mCons (mC (.int 2)) (mCons (mC (.int 2)) (mCons (mC (.int 3)) (mCons (mC (.int 3)) (mCons (mC (.int 4)) (mCons (mC (.int 5)) (mCons (mC (.int 10)) mNil)))))))) mNil))))
  (mSeq (mSet 2 (mIfE (mB (mBin fEq (mCall 2 p_law_dip (mCons (mVar 0) (mCons (mC (.int 2)) mNil))) (mC (.int 0)))) (mVar 1) (mBin fSub (mC (.int 0)) (mVar 1))))
  (mSeq (mSet 3 (mCall 2 p_law_one_of (mCons (mVar 0) (mCons (mLst (mCons (mC (.int 1)) (mCons (mC (.int 1)) (mCons (mC (.int 2)) (mCons (mC (.int 12)) mNil))))) mNil))))
  (mSeq (mSet 4 (mBin fAdd (mLst (mCons (mC (.int 0)) mNil)) (mLc (mRng rg2 (mCons (mC (.int 1)) (mCons (mVar 1) mNil))) (fName 5) mYes (mBin fAdd (mVar 5) (mBin fMul (mVar 1) (mBin fSub (mCall 2 p_law_dip (mCons (mVar 0) (mCons (mBin fMul (mC (.int 2)) (mVar 3)) mNil))) (mVar 3)))) [5])))
  (mRet (mTup (mCons (mVar 2) (mCons (mCallB fTuple (mCons (mCallB fSortedX (mCons (mVar 4) mNil)) mNil)) mNil))))))))
def f_law_base : FM := defM b_law_base [(Str.ofString "_law_well_here"), (Str.ofString "_law_high"), (Str.ofString "_law_number_here"), (Str.ofString "_law_wide"), (Str.ofString "_law_found"), (Str.ofString "_law_k")]
--@use base signs wbase
def p_law_base : FM := spec (fun _ : Unit => [.jar]) (fun _ => True) (fun _ d => WBase d) fun d => .d (.tup [.int d.1, tI d.2])
@[simp] theorem law_base_eq : p_law_base [.jar] = ((M.any WBase).bind fun d => val (.d (.tup [.int d.1, tI d.2]))) := (spec_eq (fun _ _ _ => rfl) ()).trans (req_of trivial)
theorem o_law_base : ∀ ds : List D, ds.length = 1 → (f_law_base ds).le (p_law_base ds) := by
  refine fun ds _ => spec_le (fun _ _ => ?_) ds
  have t1 : p_law_one_of [.jar, .lst [.int 2, .int 2, .int 3, .int 3, .int 4, .int 5, .int 10]] = (M.any fun x : Int => x ∈ [2, 2, 3, 3, 4, 5, 10]).bind fun x => val (.d (.int x)) := one_of_I (ns := [2, 2, 3, 3, 4, 5, 10]) (by decide)
  have t2 : p_law_one_of [.jar, .lst [.int 1, .int 1, .int 2, .int 12]] = (M.any fun x : Int => x ∈ [1, 1, 2, 12]).bind fun x => val (.d (.int x)) := one_of_I (ns := [1, 1, 2, 12]) (by decide)
  simp -implicitDefEqProofs [l_neSelf, l_eqSelf, key_int, key_str, keyD, defM, initM, tail_mapS, take_mapS, drop_mapS, sl0, slI, lcAll_map, lcAll_rng, forL_map, forL_rng, -List.map_take, -List.map_drop, -List.map_tail, -List.map_reverse, f_law_base, b_law_base, t1, t2, -law_one_of_eq, -List.mem_cons]
  intro q hq s s0 s1 w hw
  have hq2 : 2 ≤ q ∧ q ≤ 10 := by simp at hq; omega
  have hw2 : 1 ≤ w ∧ w ≤ 12 := by simp at hw; omega
  clear hq hw t1 t2
  refine ⟨by omega, ?_⟩
  refine (lcAll_sat1 (fun (i : Nat) d => ∃ x : Int, d = .int x ∧ x % q = (i : Int) + 1 ∧ -500 ≤ x ∧ x ≤ 500) (fun i hi => ?_) (P := fun xs => ∃ ys : List Int, xs = ys.map .int ∧ ys.length = q.toNat - 1 ∧ ∀ k, k < ys.length → nth ys k % q = (k : Int) + 1 ∧ -500 ≤ nth ys k ∧ nth ys k ≤ 500) fun ds hd => ?_).bind fun xs hx => ?_
  · have hi := List.mem_range.mp hi
    simp -implicitDefEqProofs [l_neSelf, l_eqSelf, key_int, key_str, keyD, defM, initM, tail_mapS, take_mapS, drop_mapS, sl0, slI, lcAll_map, lcAll_rng, forL_map, forL_rng, -List.map_take, -List.map_drop, -List.map_tail, -List.map_reverse]
    refine ⟨⟨mulOk_l ⟨by omega, by omega⟩, by omega, by omega⟩, fun a a0 a1 => ⟨mulOk_l ⟨by omega, by omega⟩, ?_⟩⟩
    have b1 : q * (a - w) ≤ q * 12 := Int.mul_le_mul_of_nonneg_left (by omega) (by omega)
    have b2 : q * (-12) ≤ q * (a - w) := Int.mul_le_mul_of_nonneg_left (by omega) (by omega)
    refine ⟨?_, by omega, by omega⟩
    rw [Int.emod_eq_of_lt (by omega) (by omega)]
    omega
  · obtain ⟨ys, rfl, hp⟩ := Paired.unmap hd
    have hl := hp.length
    rw [List.length_range] at hl
    refine ⟨ys, rfl, hl.symm, fun k hk => ?_⟩
    have := paired_get hp k (by rw [List.length_range, hl]; exact hk) hk
    rw [List.getElem_range] at this
    rw [nth_lt hk]; exact this
  · obtain ⟨ys, rfl, hl, hy⟩ := hx
    obtain ⟨n, rfl⟩ := Int.eq_ofNat_of_zero_le (by omega : 0 ≤ q)
    have hz : ∀ k, k < (0 :: ys).length → nth (0 :: ys) k % (n : Int) = (k : Int) ∧ -500 ≤ nth (0 :: ys) k ∧ nth (0 :: ys) k ≤ 500 := fun k hk => by
      cases k with
      | zero => exact ⟨by show (0 : Int) % (n : Int) = _; simp, by show (-500 : Int) ≤ 0; decide, by show (0 : Int) ≤ 500; decide⟩
      | succ k =>
        have := hy k (by simpa using hk)
        exact ⟨by rw [Int.natCast_succ]; exact this.1, this.2⟩
    have fin := signs_fin hz (by rw [List.length_cons, hl]; omega) (List.mem_cons_self ..)
    have e0 : (D.int 0 :: ys.map D.int) = (0 :: ys).map D.int := rfl
    have hl2 : (0 :: ys).length ≤ 20 := by rw [List.length_cons, hl]; omega
    rw [e0, List.length_map]
    generalize (0 :: ys) = zs at *
    simp -implicitDefEqProofs [l_neSelf, l_eqSelf, key_int, key_str, keyD, defM, initM, tail_mapS, take_mapS, drop_mapS, sl0, slI, lcAll_map, lcAll_rng, forL_map, forL_rng, -List.map_take, -List.map_drop, -List.map_tail, -List.map_reverse]
    refine ⟨by rw [hl]; omega, ?_⟩
    exact ⟨_, _, ⟨n, by omega, by show (if s = 0 then (n : Int) else -(n : Int)) = _ ∨ _; split <;> simp, fin⟩, rfl, rfl⟩

/-- law_last(law_figures_here, law_number_here); slots: 0 law_figures_here, 1 law_number_here, 2 law_each -/
def b_law_last : SM := (mRet (mBin fIx (mLc (mItems (mVar 0)) (fName 2) (mB (mBin fEq (mBin fMod (mCallB fInt (mCons (mBin fSub (mVar 1) (mVar 2)) mNil)) (mCallB fLen (mCons (mVar 0) mNil))) (mC (.int 0)))) (mVar 2) [2]) (mC (.int 0))))
def f_law_last : FM := defM b_law_last [(Str.ofString "_law_figures_here"), (Str.ofString "_law_number_here"), (Str.ofString "_law_each")]
--@use base sum
theorem law_last_eq {p n : Int} {fs : List Int} (h : BaseOk p fs) : f_law_last [tI fs, .int n] = val (.d (.int (lastB p fs n))) := by
  have hq := h.q
  have hf := (h.lastM n).2.2
  have hlen := h.len
  have hc : ∀ s : Int, ((n - s).fmod (fs.length : Int) = 0) = (s % (p.natAbs : Int) = n % (p.natAbs : Int)) := fun s => propext (by
    rw [hlen, Int.fmod_eq_emod_of_nonneg _ (by omega)]
    exact ⟨fun z => (Int.emod_eq_emod_iff_emod_sub_eq_zero.mpr z).symm, fun z => Int.emod_eq_emod_iff_emod_sub_eq_zero.mp z.symm⟩)
  (conv => { lhs; simp -implicitDefEqProofs [l_neSelf, l_eqSelf, key_int, key_str, keyD, defM, initM, tail_mapS, take_mapS, drop_mapS, sl0, slI, lcAll_map, lcAll_rng, forL_map, forL_rng, -List.map_take, -List.map_drop, -List.map_tail, -List.map_reverse, f_law_last, b_law_last, hc] })
  have hx : ∃ x, x ∈ fs ∧ x % (p.natAbs : Int) = n % (p.natAbs : Int) := h.has n
  rw [req_of ⟨⟨by omega, fun a ha => List.ne_nil_of_mem ha⟩, hx⟩]
  have hh := filter_head (p := fun a => decide (a % (p.natAbs : Int) = n % (p.natAbs : Int))) (l := fs)
  rw [hf, if_neg (fun z => by
    obtain ⟨x, h1, h2⟩ := hx
    have := List.filter_eq_nil_iff.mp z x h1
    simp [h2] at this)] at hh
  rw [Option.some.inj hh]

/-- law_next(law_base_here, law_number_here); slots: 0 law_base_here, 1 law_number_here, 2 law_high, 3 law_figures_here, 4 law_rest_here -/
def b_law_next_1 : SM := (mSeq (mSet 4 (mBin fSub (mVar 1) (mCall 2 f_law_last (mCons (mVar 3) (mCons (mVar 1) mNil)))))
  (mRet (mBin fDiv (mVar 4) (mVar 2))))
def b_law_next : SM := (mSeq (mAsgN (fTupN [2, 3]) (mVar 0))
  b_law_next_1)
def f_law_next : FM := defM b_law_next [(Str.ofString "_law_base_here"), (Str.ofString "_law_number_here"), (Str.ofString "_law_high"), (Str.ofString "_law_figures_here"), (Str.ofString "_law_rest_here")]
theorem law_next_eq {p n : Int} {fs : List Int} (h : BaseOk p fs) : f_law_next [.tup [.int p, tI fs], .int n] = val (.d (.int (restB p fs n))) := by
  have hp := h.p2
  have e := law_last_eq (n := n) h
  have hfd : (n - lastB p fs n).fdiv p = restB p fs n := Int.fdiv_eq_ediv_of_dvd (h.dvd n)
  have hdo : DL.DivOk (n - lastB p fs n) p := divOk_n h.p0 (by omega)
  (conv => { lhs; simp -implicitDefEqProofs [l_neSelf, l_eqSelf, key_int, key_str, keyD, defM, initM, tail_mapS, take_mapS, drop_mapS, sl0, slI, lcAll_map, lcAll_rng, forL_map, forL_rng, -List.map_take, -List.map_drop, -List.map_tail, -List.map_reverse, f_law_next, b_law_next, b_law_next_1, e, hfd, hdo] })

/-- law_way(law_base_here, law_number_here); slots: 0 law_base_here, 1 law_number_here, 2 law_found, 3 law_turn -/
def b_law_way : SM := (mSeq (mSet 2 (mLst (mCons (mVar 1) mNil)))
  (mSeq (mFor (mRng rg1 (mCons (mC (.int 2000)) mNil)) (fName 3) (mSeq (mIf (mOr (mB (mBin fEq (mIxV 2 (mUn fNeg (mC (.int 1)))) (mC (.int 0)))) (mB (mBin fIn (mIxV 2 (mUn fNeg (mC (.int 1)))) (mSlV 2 mNoP (mPart (mUn fNeg (mC (.int 1)))))))) (mRet (mVar 2)) mNext)
  (mApp 2 (mCall 2 f_law_next (mCons (mVar 0) (mCons (mIxV 2 (mUn fNeg (mC (.int 1)))) mNil))))) [3])
  (mRet (mVar 2))))
def f_law_way : FM := defM b_law_way [(Str.ofString "_law_base_here"), (Str.ofString "_law_number_here"), (Str.ofString "_law_found"), (Str.ofString "_law_turn")]
--@use base2 while
/-- what is left again and again up to the k-th turn -/
def wayB (p : Int) (fs : List Int) (n : Int) (k : Nat) : List Int := metB p fs n (k + 1)
theorem way_last {p n : Int} {fs : List Int} {k : Nat} : wayB p fs n k = metB p fs n k ++ [itB p fs k n] := metB_succ
theorem law_way_eq {p n : Int} {fs : List Int} {k : Nat} (h : BaseOk p fs) (hs : StopB p fs n k) (hk : k < 2000) : f_law_way [.tup [.int p, tI fs], .int n] = val (.d (.lst ((wayB p fs n k).map .int))) := by
  have e2 : ∀ x, f_law_next [.tup [.int p, tI fs], .int x] = val (.d (.int (restB p fs x))) := fun x => law_next_eq h
  (conv => { lhs; simp -implicitDefEqProofs [l_neSelf, l_eqSelf, key_int, key_str, keyD, defM, initM, tail_mapS, take_mapS, drop_mapS, sl0, slI, lcAll_map, lcAll_rng, forL_map, forL_rng, -List.map_take, -List.map_drop, -List.map_tail, -List.map_reverse, f_law_way, b_law_way] })
  rw [forL_findE (ρ := [some (.d (.tup [.int p, tI fs])), some (.d (.int n)), some (.own [.int n]), none]) (fun pre : List Nat => [some (.d (.tup [.int p, tI fs])), some (.d (.int n)), some (.own ((wayB p fs n pre.length).map .int)), none]) (fun i => decide (i = k)) (fun _ => rt (.d (.lst ((wayB p fs n k).map .int)))) rfl (fun _ _ => rfl) fun pre i post e hp => ?_]
  · have hf : (List.range 2000).find? (fun i => decide (i = k)) = some k := by
      cases c : (List.range 2000).find? (fun i => decide (i = k)) with
      | none => exact absurd (decide_eq_true rfl) (List.find?_eq_none.mp c k (List.mem_range.mpr hk))
      | some j => rw [of_decide_eq_true (List.find?_some (p := fun i => decide (i = k)) c)]
    rw [hf]
    rfl
  · obtain ⟨hi, hi2⟩ := range_split e
    have hik : i ≤ k := by
      refine Nat.le_of_not_lt fun z => ?_
      have := hp k (by
        have h1 : k ∈ List.range 2000 := List.mem_range.mpr hk
        rw [e] at h1
        rcases List.mem_append.mp h1 with q | q
        · exact q
        · have hsrt := (List.pairwise_lt_range (n := 2000))
          rw [e] at hsrt
          rcases List.mem_cons.mp q with q | q
          · omega
          · have := (List.pairwise_cons.mp (List.pairwise_append.mp hsrt).2.1).1 k q
            omega)
      simp at this
    rw [← hi, List.length_append, List.length_singleton, ← hi]
    have hm : (metB p fs n i).length = i := by simp [metB]
    have hl : nth (wayB p fs n i) i = itB p fs i n := by
      rw [way_last, nth_lt (by simp [hm])]; simp [hm]
    have hd : ((wayB p fs n i).map D.int).dropLast = (metB p fs n i).map D.int := by rw [← List.map_dropLast, way_last, List.dropLast_concat]
    have hlen : (wayB p fs n i).length = i + 1 := by simp [wayB, metB]
    have hs1 : wayB p fs n (i + 1) = wayB p fs n i ++ [restB p fs (itB p fs i n)] := by rw [way_last]; rfl
    by_cases c : i = k
    · subst c
      have hst : itB p fs i n = 0 ∨ itB p fs i n ∈ metB p fs n i := hs.stop
      generalize wayB p fs n i = ws at *
      generalize itB p fs i n = x at *
      generalize metB p fs n i = ms at *
      by_cases z : x = 0
      · simp -implicitDefEqProofs [l_neSelf, l_eqSelf, key_int, key_str, keyD, defM, initM, tail_mapS, take_mapS, drop_mapS, sl0, slI, lcAll_map, lcAll_rng, forL_map, forL_rng, -List.map_take, -List.map_drop, -List.map_tail, -List.map_reverse, hl, hd, hlen, z, hm]
      · have z2 := hst.resolve_left z
        simp -implicitDefEqProofs [l_neSelf, l_eqSelf, key_int, key_str, keyD, defM, initM, tail_mapS, take_mapS, drop_mapS, sl0, slI, lcAll_map, lcAll_rng, forL_map, forL_rng, -List.map_take, -List.map_drop, -List.map_tail, -List.map_reverse, hl, hd, hlen, z, z2, hm]
    · obtain ⟨z, z2⟩ := hs.go i (by omega)
      rw [hs1]
      generalize wayB p fs n i = ws at *
      generalize itB p fs i n = x at *
      generalize metB p fs n i = ms at *
      simp -implicitDefEqProofs [l_neSelf, l_eqSelf, key_int, key_str, keyD, defM, initM, tail_mapS, take_mapS, drop_mapS, sl0, slI, lcAll_map, lcAll_rng, forL_map, forL_rng, -List.map_take, -List.map_drop, -List.map_tail, -List.map_reverse, hl, hd, hlen, z, z2, hm, c, e2]
      rw [req_of (by omega)]

--@use base base2
section
variable {p : Int} {fs : List Int}
theorem BaseOk.stepF (h : BaseOk p fs) {F : Nat} (hF : ∀ f ∈ fs, f.natAbs ≤ F) (n : Int) : (restB p fs n).natAbs * 2 ≤ n.natAbs + F := by
  have e := h.split n
  have hb := hF _ (h.lastM n).1
  have hp := h.p2
  have h1 : (restB p fs n * p).natAbs ≤ n.natAbs + F := by omega
  rw [Int.natAbs_mul] at h1
  have h2 : (restB p fs n).natAbs * 2 ≤ (restB p fs n).natAbs * p.natAbs := Nat.mul_le_mul_left _ (by omega)
  omega
theorem BaseOk.smallF (h : BaseOk p fs) {F : Nat} (hF : ∀ f ∈ fs, f.natAbs ≤ F) {n : Int} {b : Nat} (hn : n.natAbs ≤ 2 ^ b + F) : ∀ i : Nat, i ≤ b → (itB p fs i n).natAbs ≤ 2 ^ (b - i) + F
  | 0, _ => hn
  | i + 1, hi => by
    have ih := h.smallF hF hn i (by omega)
    have := h.stepF hF (itB p fs i n)
    have e : 2 ^ (b - i) = 2 ^ (b - (i + 1)) * 2 := by rw [← Nat.pow_succ]; congr 1; omega
    show (restB p fs (itB p fs i n)).natAbs ≤ _
    omega
theorem BaseOk.small2F (h : BaseOk p fs) {F : Nat} (hF : ∀ f ∈ fs, f.natAbs ≤ F) {n : Int} (hn : n.natAbs ≤ F + 1) : ∀ i : Nat, (itB p fs i n).natAbs ≤ F + 1
  | 0 => hn
  | i + 1 => by
    have ih := h.small2F hF hn i
    have := h.stepF hF (itB p fs i n)
    show (restB p fs (itB p fs i n)).natAbs ≤ _
    omega
theorem BaseOk.stop_exF (h : BaseOk p fs) {F : Nat} (hF : ∀ f ∈ fs, f.natAbs ≤ F) {n : Int} {b : Nat} (hn : n.natAbs ≤ 2 ^ b) : ∃ k, k ≤ b + (2 * F + 4) ∧ StopB p fs n k := by
  have hs : ∀ i, b ≤ i → (itB p fs i n).natAbs ≤ F + 1 := fun i hi => by
    have h1 := h.smallF hF (n := n) (b := b) (by omega) b (Nat.le_refl _)
    rw [Nat.sub_self, Nat.pow_zero] at h1
    have := h.small2F hF (n := itB p fs b n) (by omega) (i - b)
    rwa [← itB_add, show i - b + b = i by omega] at this
  have hex : ∃ k, k ≤ b + (2 * F + 4) ∧ itB p fs k n ∈ metB p fs n k := by
    by_cases c : ∃ k, k ≤ b + (2 * F + 4) ∧ itB p fs k n ∈ metB p fs n k
    · exact c
    · exfalso
      have hnd : ((List.range (2 * F + 4)).map fun j => itB p fs (b + j) n).Nodup := by
        refine List.pairwise_map.mpr ((List.pairwise_lt_range (n := (2 * F + 4))).imp_of_mem fun {x y} hx hy hxy e => c ⟨b + y, by have := List.mem_range.mp hy; omega, mem_metB.mpr ⟨b + x, by omega, e⟩⟩)
      have := nodup_le hnd (m := (List.range (2 * F + 3)).map fun (j : Nat) => (j : Int) - (F + 1)) fun x hx => by
        obtain ⟨j, _, rfl⟩ := List.mem_map.mp hx
        have := hs (b + j) (by omega)
        exact List.mem_map.mpr ⟨(itB p fs (b + j) n + (F + 1)).toNat, List.mem_range.mpr (by omega), by omega⟩
      rw [List.length_map, List.length_map, List.length_range, List.length_range] at this
      omega
  obtain ⟨k0, hk0, hm⟩ := hex
  have : ∀ m, m ≤ k0 → (∃ k, k ≤ m ∧ StopB p fs n k) ∨ ∀ i, i ≤ m → itB p fs i n ≠ 0 ∧ itB p fs i n ∉ metB p fs n i := fun m => by
    induction m with
    | zero =>
      intro _
      by_cases c : itB p fs 0 n = 0
      · exact .inl ⟨0, Nat.le_refl _, fun i hi => absurd hi (Nat.not_lt_zero _), .inl c⟩
      · exact .inr fun i hi => by
          rw [Nat.le_zero.mp hi]
          exact ⟨c, by simp [metB]⟩
    | succ m ih =>
      intro hm
      rcases ih (by omega) with ⟨k, a, b⟩ | q
      · exact .inl ⟨k, by omega, b⟩
      · by_cases c : itB p fs (m + 1) n = 0 ∨ itB p fs (m + 1) n ∈ metB p fs n (m + 1)
        · exact .inl ⟨m + 1, Nat.le_refl _, fun i hi => q i (by omega), c⟩
        · rw [not_or] at c
          refine .inr fun i hi => ?_
          by_cases z : i = m + 1
          · rw [z]; exact c
          · exact q i (by omega)
  rcases this k0 (Nat.le_refl _) with ⟨k, a, b⟩ | q
  · exact ⟨k, by omega, b⟩
  · exact absurd hm (q k0 (Nat.le_refl _)).2
end

/-- law_written(law_base_here, law_number_here); slots: 0 law_base_here, 1 law_number_here, 2 law_way_here, 3 law_each -/
def b_law_written : SM := (mSeq (mSet 2 (mCall 2 f_law_way (mCons (mVar 0) (mCons (mVar 1) mNil))))
  (mSeq (mIf (mB (mBin fNe (mIxV 2 (mUn fNeg (mC (.int 1)))) (mC (.int 0)))) (mRet (mC .non)) mNext)
  (mRet (mCallB fTuple (mCons (mUn fRev (mLc (mItems (mSl (mVar 2) mNoP (mPart (mUn fNeg (mC (.int 1)))))) (fName 3) mYes (mCall 2 f_law_last (mCons (mIxV 0 (mC (.int 1))) (mCons (mVar 3) mNil))) [3])) mNil)))))
def f_law_written : FM := defM b_law_written [(Str.ofString "_law_base_here"), (Str.ofString "_law_number_here"), (Str.ofString "_law_way_here"), (Str.ofString "_law_each")]
--@use base2 base3
theorem law_written_eq {p n : Int} {fs : List Int} {k : Nat} (h : BaseOk p fs) (hs : StopB p fs n k) (hk : k < 2000) : f_law_written [.tup [.int p, tI fs], .int n] = val (.d (dSpell p fs n k)) := by
  have e1 : ∀ x, f_law_last [tI fs, .int x] = val (.d (.int (lastB p fs x))) := fun x => law_last_eq h
  have e2 := law_way_eq h hs hk
  have hl : nth (wayB p fs n k) ((wayB p fs n k).length - 1) = itB p fs k n := by
    rw [way_last, nth_lt (by simp)]; simp
  have hd : (wayB p fs n k).dropLast = metB p fs n k := by rw [way_last, List.dropLast_concat]
  have hlen : (wayB p fs n k).length = k + 1 := by simp [wayB, metB]
  (conv => { lhs; simp -implicitDefEqProofs [l_neSelf, l_eqSelf, key_int, key_str, keyD, defM, initM, tail_mapS, take_mapS, drop_mapS, sl0, slI, lcAll_map, lcAll_rng, forL_map, forL_rng, -List.map_take, -List.map_drop, -List.map_tail, -List.map_reverse, f_law_written, b_law_written, e1, e2] })
  rw [hl, hlen, ← List.map_dropLast, hd, lcAll_map]
  have hf : (metB p fs n k).map (lastB p fs) = foundB p fs n k := by unfold metB foundB; rw [List.map_map]; rfl
  rw [req_of (by omega)]
  unfold dSpell
  by_cases c : itB p fs k n = 0
  · rw [if_pos c, if_pos c, ← hf]
    simp -implicitDefEqProofs [l_neSelf, l_eqSelf, key_int, key_str, keyD, defM, initM, tail_mapS, take_mapS, drop_mapS, sl0, slI, lcAll_map, lcAll_rng, forL_map, forL_rng, -List.map_take, -List.map_drop, -List.map_tail, -List.map_reverse, e1]
    rw [req_of (by omega)]
    unfold tI
    rw [List.map_reverse, List.map_map]
    rfl
  · rw [if_neg c, if_neg c]

/-- law_odd_papers(law_well_here); slots: 0 law_well_here, 1 law_some -/
def b_law_odd_papers : SM := (mSeq (mSet 1 (mLst (mCons (mC .non) (mCons (mC (.int 0)) (mCons (mLst mNil) (mCons (mTup (mCons (mTup mNil) mNil)) (mCons mDic0 (mCons (mC (.str (Str.ofString ""))) (mCons (mC (.str (Str.ofString "()"))) (mCons (mTup (mCons (mC (.int 0)) mNil)) (mCons (mTup (mCons (mC (.int 0)) (mCons (mC (.int 0)) (mCons (mC (.int 0)) mNil)))) (mCons (mLst (mCons (mC (.str (Str.ofString "ab"))) mNil)) (mCons (mC (.bl true)) (mCons (mTup (mCons (mC (.str (Str.ofString ""))) mNil)) (mCons (mTup (mCons (mC .non) (mCons (mTup mNil) mNil))) (mCons (mTup (mCons (mC (.str (Str.ofString ""))) (mCons (mTup mNil) (mCons (mTup mNil) mNil)))) (mCons (mTup (mCons (mTup (mCons (mC (.int 2)) mNil)) (mCons (mLst mNil) mNil))) mNil)))))))))))))))))
  (mRet (mCall 2 p_law_one_of (mCons (mVar 0) (mCons (mVar 1) mNil)))))
def f_law_odd_papers : FM := defM b_law_odd_papers [(Str.ofString "_law_well_here"), (Str.ofString "_law_some")]
--@use pap
def p_law_odd_papers : FM := spec (fun _ : Unit => [.jar]) (fun _ => True) (fun _ d => d ∈ oddP) fun d => .d d
@[simp] theorem law_odd_papers_eq : p_law_odd_papers [.jar] = ((M.any fun d => d ∈ oddP).bind fun d => val (.d d)) := (spec_eq (fun _ _ _ => rfl) ()).trans (req_of trivial)
theorem o_law_odd_papers : ∀ ds : List D, ds.length = 1 → (f_law_odd_papers ds).le (p_law_odd_papers ds) := by
  refine fun ds _ => spec_le (fun _ _ => ?_) ds
  have t : p_law_one_of [.jar, .lst oddP] = (M.any fun d : D => d ∈ oddP).bind fun d => val (.d d) := one_of_any (by decide)
  unfold oddP at t
  simp -implicitDefEqProofs [l_neSelf, l_eqSelf, key_int, key_str, keyD, defM, initM, tail_mapS, take_mapS, drop_mapS, sl0, slI, lcAll_map, lcAll_rng, forL_map, forL_rng, -List.map_take, -List.map_drop, -List.map_tail, -List.map_reverse, f_law_odd_papers, b_law_odd_papers, t, -law_one_of_eq, -List.mem_cons]
  exact fun a h => h

/-- law_value(law_base_here, law_row); slots: 0 law_base_here, 1 law_row, 2 law_found, 3 law_each -/
def b_law_value : SM := (mSeq (mSet 2 (mC (.int 0)))
  (mSeq (mFor (mItems (mVar 1)) (fName 3) (mSet 2 (mBin fAdd (mBin fMul (mVar 2) (mIxV 0 (mC (.int 0)))) (mVar 3))) [3])
  (mRet (mVar 2))))
def f_law_value : FM := defM b_law_value [(Str.ofString "_law_base_here"), (Str.ofString "_law_row"), (Str.ofString "_law_found"), (Str.ofString "_law_each")]
--@use base base2
theorem law_value_eq {p : Int} {fs r : List Int} (h : BaseOk p fs) : f_law_value [.tup [.int p, tI fs], tI r] = val (.d (.int (valB p r))) := by
  have hp := h.p2
  (conv => { lhs; simp -implicitDefEqProofs [l_neSelf, l_eqSelf, key_int, key_str, keyD, defM, initM, tail_mapS, take_mapS, drop_mapS, sl0, slI, lcAll_map, lcAll_rng, forL_map, forL_rng, -List.map_take, -List.map_drop, -List.map_tail, -List.map_reverse, f_law_value, b_law_value] })
  rw [forL_endF (fun v : Int => [some (.d (.tup [.int p, tI fs])), some (.d (tI r)), some (.d (.int v)), none]) (fun v f => v * p + f) 0 rfl fun v f _ => ?_]
  · rfl
  · simp -implicitDefEqProofs [l_neSelf, l_eqSelf, key_int, key_str, keyD, defM, initM, tail_mapS, take_mapS, drop_mapS, sl0, slI, lcAll_map, lcAll_rng, forL_map, forL_rng, -List.map_take, -List.map_drop, -List.map_tail, -List.map_reverse]
    rw [req_of (mulOk_r ⟨by omega, by omega⟩)]

/-- law_is_row(law_base_here, law_thing); slots: 0 law_base_here, 1 law_thing, 2 law_each -/
def b_law_is_row : SM := (mSeq (mIf (mNot (mB (mCallB fIsi (mCons (mVar 1) (mCons (mC (.v (.ty "tuple"))) mNil))))) (mRet (mC (.bl false))) mNext)
  (mSeq (mIf (mB (mBin fNe (mLc (mItems (mVar 1)) (fName 2) (mOr (mNot (mB (mCallB fIsi (mCons (mVar 2) (mCons (mC (.v (.ty "int"))) mNil))))) (mB (mCallB fIsi (mCons (mVar 2) (mCons (mC (.v (.ty "bool"))) mNil))))) (mVar 2) [2]) (mLst mNil))) (mRet (mC (.bl false))) mNext)
  (mRet (mAndV (mBin fEq (mLc (mItems (mVar 1)) (fName 2) (mB (mBin fNin (mVar 2) (mIxV 0 (mC (.int 1))))) (mVar 2) [2]) (mLst mNil)) (mOrV (mBin fEq (mVar 1) (mTup mNil)) (mBin fNe (mIxV 1 (mC (.int 0))) (mC (.int 0))))))))
def f_law_is_row : FM := defM b_law_is_row [(Str.ofString "_law_base_here"), (Str.ofString "_law_thing"), (Str.ofString "_law_each")]
--@use rowr
theorem flat_nil {α : Type} : ∀ ms : List α, ms.flatMap (fun _ => ([] : List D)) = [] := fun ms => by induction ms with
  | nil => rfl
  | cons a l ih => rw [List.flatMap_cons, ih]; rfl
theorem lc_none {α : Type} {ns : List α} : lcAll (fun _ : α => M.one ([] : List D)) ns = M.one [] := by rw [lcAll_one (h := fun _ : α => ([] : List D)), flat_nil]
theorem law_is_row_gen {p : Int} {fs : List Int} {d : D} (h : PapD d) : f_law_is_row [.tup [.int p, tI fs], d] = val (.d (.bl (rowR fs d).isSome)) := by
  have hk := h.kn
  cases ht : d.isT with
  | false =>
    rw [rowR_noT ht]
    (conv => { lhs; simp -implicitDefEqProofs [l_neSelf, l_eqSelf, key_int, key_str, keyD, defM, initM, tail_mapS, take_mapS, drop_mapS, sl0, slI, lcAll_map, lcAll_rng, forL_map, forL_rng, -List.map_take, -List.map_drop, -List.map_tail, -List.map_reverse, f_law_is_row, b_law_is_row, l_isi_tup hk, ht] })
    rfl
  | true =>
    obtain ⟨ds, rfl⟩ := isT_tupP ht
    obtain ⟨hl, he⟩ := h.el ds rfl
    have hc : lcAll (lcT (fName 2) (mOr (mNot (mB (mCallB fIsi (mCons (mVar 2) (mCons (mC (D.v (V.ty "int"))) mNil))))) (mB (mCallB fIsi (mCons (mVar 2) (mCons (mC (D.v (V.ty "bool"))) mNil))))) (mVar 2) [some (.d (.tup [.int p, tI fs])), some (.d (.tup ds)), none]) ds = M.one (ds.filter fun a => !a.isI) := by
      have hflt : (ds.filter fun a => decide (a.isI = false)).map id = ds.filter fun a => !a.isI := by
        rw [List.map_id]; congr 1; funext a; cases a.isI <;> rfl
      rw [← hflt]
      refine (lcAll_congr (step' := fun a => if a.isI = false then M.one [id a] else M.one []) fun a hx => ?_).trans lcAll_if
      have hk := (he a hx).kn
      have i1 := l_isi_int hk
      have i2 := l_isi_bool hk
      cases a <;> simp -implicitDefEqProofs [l_neSelf, l_eqSelf, key_int, key_str, keyD, defM, initM, tail_mapS, take_mapS, drop_mapS, sl0, slI, lcAll_map, lcAll_rng, forL_map, forL_rng, -List.map_take, -List.map_drop, -List.map_tail, -List.map_reverse, i1, i2, D.isI, D.isBl]
    cases ha : ds.all D.isI with
    | false =>
      have hb : rowR fs (.tup ds) = none := rowR_bad (by
        rw [Bool.eq_false_iff]
        intro z
        have : ds.all D.isI = true := List.all_eq_true.mpr fun x hx => by
          have := List.all_eq_true.mp z x hx
          cases x <;> first | rfl | cases this
        rw [this] at ha; cases ha)
      rw [hb]
      have hfe : EqOk 60 (.lst (ds.filter fun a => !a.isI)) := by
        rw [eqOk_lst (n := 59)]
        intro x hx
        have := (he x (List.mem_filter.mp hx).1).eq
        exact ⟨this.1, this.2.1, Nat.le_trans this.2.2 (by decide)⟩
      have hfn : ¬ (ds.filter fun a => !a.isI) = [] := by
        intro z
        have z := List.filter_eq_nil_iff.mp z
        have : ds.all D.isI = true := List.all_eq_true.mpr fun x hx => by
          have := z x hx
          simpa using this
        rw [this] at ha; cases ha
      have hne := l_neL0E hfe
      rw [decide_eq_false hfn] at hne
      (conv => { lhs; simp -implicitDefEqProofs [l_neSelf, l_eqSelf, key_int, key_str, keyD, defM, initM, tail_mapS, take_mapS, drop_mapS, sl0, slI, lcAll_map, lcAll_rng, forL_map, forL_rng, -List.map_take, -List.map_drop, -List.map_tail, -List.map_reverse, f_law_is_row, b_law_is_row] })
      rw [req_of (by omega), hc]
      simp -implicitDefEqProofs [l_neSelf, l_eqSelf, key_int, key_str, keyD, defM, initM, tail_mapS, take_mapS, drop_mapS, sl0, slI, lcAll_map, lcAll_rng, forL_map, forL_rng, -List.map_take, -List.map_drop, -List.map_tail, -List.map_reverse, hne]
    | true =>
      have e := ints_all ha
      generalize ds.map intE = r at *
      subst e
      rw [List.length_map] at hl
      have hf0 : ((r.map D.int).filter fun a => !a.isI) = [] := List.filter_eq_nil_iff.mpr fun x hx => by
        obtain ⟨i, _, rfl⟩ := List.mem_map.mp hx
        simp [D.isI]
      rw [hf0] at hc
      have hn0 : M.lift (fNe (.lst []) (.lst [])) = M.one (.d (.bl false)) := by rw [l_neL0E (by rw [eqOk_lst (n := 59)]; exact eqOkA_nil)]; rfl
      (conv => { lhs; simp -implicitDefEqProofs [l_neSelf, l_eqSelf, key_int, key_str, keyD, defM, initM, tail_mapS, take_mapS, drop_mapS, sl0, slI, lcAll_map, lcAll_rng, forL_map, forL_rng, -List.map_take, -List.map_drop, -List.map_tail, -List.map_reverse, f_law_is_row, b_law_is_row] })
      rw [req_of (by omega), lc_none]
      simp -implicitDefEqProofs [l_neSelf, l_eqSelf, key_int, key_str, keyD, defM, initM, tail_mapS, take_mapS, drop_mapS, sl0, slI, lcAll_map, lcAll_rng, forL_map, forL_rng, -List.map_take, -List.map_drop, -List.map_tail, -List.map_reverse, hn0]
      have hcg : lcAll (fun a : Int => if a ∈ fs then M.one ([] : List D) else M.one [D.int a]) r = M.one ((r.filter fun a => decide (a ∉ fs)).map D.int) := by
        refine (lcAll_congr fun a _ => ?_).trans (lcAll_if (p := fun a => a ∉ fs) (h := D.int))
        by_cases q : a ∈ fs <;> simp [q]
      rw [req_of (by omega), hcg]
      cases ha2 : r.all (fun a => decide (a ∈ fs)) with
      | true =>
        have hm : ∀ f ∈ r, f ∈ fs := fun f hf => of_decide_eq_true (List.all_eq_true.mp ha2 f hf)
        have hf2 : (r.filter fun a => decide (a ∉ fs)) = [] := List.filter_eq_nil_iff.mpr fun x hx => by simp [hm x hx]
        rw [rowR_I hm, hf2]
        have he0 : M.lift (fEq (.lst []) (.lst [])) = M.one (.d (.bl true)) := by rw [l_eqL0E (by rw [eqOk_lst (n := 59)]; exact eqOkA_nil)]; rfl
        clear ha2 hf2 hcg hc hf0 ha
        simp -implicitDefEqProofs [l_neSelf, l_eqSelf, key_int, key_str, keyD, defM, initM, tail_mapS, take_mapS, drop_mapS, sl0, slI, lcAll_map, lcAll_rng, forL_map, forL_rng, -List.map_take, -List.map_drop, -List.map_tail, -List.map_reverse, he0]
        cases r with
        | nil => simp -implicitDefEqProofs [l_neSelf, l_eqSelf, key_int, key_str, keyD, defM, initM, tail_mapS, take_mapS, drop_mapS, sl0, slI, lcAll_map, lcAll_rng, forL_map, forL_rng, -List.map_take, -List.map_drop, -List.map_tail, -List.map_reverse]
        | cons a l =>
          have n0 : nth (a :: l) 0 = a := rfl
          by_cases z : a = 0
          · simp -implicitDefEqProofs [l_neSelf, l_eqSelf, key_int, key_str, keyD, defM, initM, tail_mapS, take_mapS, drop_mapS, sl0, slI, lcAll_map, lcAll_rng, forL_map, forL_rng, -List.map_take, -List.map_drop, -List.map_tail, -List.map_reverse, n0, z]
          · simp -implicitDefEqProofs [l_neSelf, l_eqSelf, key_int, key_str, keyD, defM, initM, tail_mapS, take_mapS, drop_mapS, sl0, slI, lcAll_map, lcAll_rng, forL_map, forL_rng, -List.map_take, -List.map_drop, -List.map_tail, -List.map_reverse, n0, z]
      | false =>
        have hb : rowR fs (.tup (r.map D.int)) = none := rowR_bad (by rw [List.all_map]; exact ha2)
        have hf2 : ¬ (r.filter fun a => decide (a ∉ fs)) = [] := fun z => by
          have z := List.filter_eq_nil_iff.mp z
          have : r.all (fun a => decide (a ∈ fs)) = true := List.all_eq_true.mpr fun x hx => by
            have := z x hx
            simpa using this
          rw [this] at ha2; cases ha2
        rw [hb]
        generalize (r.filter fun a => decide (a ∉ fs)) = ms at *
        simp -implicitDefEqProofs [l_neSelf, l_eqSelf, key_int, key_str, keyD, defM, initM, tail_mapS, take_mapS, drop_mapS, sl0, slI, lcAll_map, lcAll_rng, forL_map, forL_rng, -List.map_take, -List.map_drop, -List.map_tail, -List.map_reverse, hf2]

/-- law_bent(law_well_here, law_base_here, law_row); slots: 0 law_well_here, 1 law_base_here, 2 law_row, 3 law_k, 4 law_odd, 5 law_some -/
def b_law_bent : SM := (mSeq (mSet 3 (mCall 2 p_law_dip (mCons (mVar 0) (mCons (mBin fAdd (mCallB fLen (mCons (mVar 2) mNil)) (mC (.int 1))) mNil))))
  (mSeq (mSet 4 (mCall 2 p_law_one_of (mCons (mVar 0) (mCons (mLst (mCons (mC (.int 0)) (mCons (mC (.int 0)) (mCons (mBin fIx (mIxV 1 (mC (.int 1))) (mC (.int 0))) (mCons (mBin fIx (mIxV 1 (mC (.int 1))) (mUn fNeg (mC (.int 1)))) (mCons (mC (.int 1000)) (mCons (mC .non) (mCons (mC (.bl true)) (mCons (mC (.str (Str.ofString "1"))) (mCons (mTup (mCons (mC (.int 1)) mNil)) mNil)))))))))) mNil))))
  (mSeq (mSet 5 (mLst (mCons (mBin fAdd (mBin fAdd (mSl (mVar 2) mNoP (mPart (mVar 3))) (mTup (mCons (mVar 4) mNil))) (mSl (mVar 2) (mPart (mVar 3)) mNoP)) (mCons (mBin fAdd (mBin fAdd (mSl (mVar 2) mNoP (mPart (mVar 3))) (mTup (mCons (mVar 4) mNil))) (mSl (mVar 2) (mPart (mBin fAdd (mVar 3) (mC (.int 1)))) mNoP)) (mCons (mBin fAdd (mTup (mCons (mC (.int 0)) mNil)) (mVar 2)) (mCons (mCallB fList (mCons (mVar 2) mNil)) (mCons (mSl (mVar 2) (mPart (mC (.int 1))) mNoP) (mCons (mUn fRevT (mVar 2)) mNil))))))))
  (mRet (mCall 2 p_law_one_of (mCons (mVar 0) (mCons (mVar 5) mNil)))))))
def f_law_bent : FM := defM b_law_bent [(Str.ofString "_law_well_here"), (Str.ofString "_law_base_here"), (Str.ofString "_law_row"), (Str.ofString "_law_k"), (Str.ofString "_law_odd"), (Str.ofString "_law_some")]
--@use rowr wbase
def p_law_bent : FM := spec (fun i : Int × List Int × List Int => [.jar, .tup [.int i.1, tI i.2.1], tI i.2.2]) (fun i => i.2.1 ≠ [] ∧ i.2.1.length ≤ 40 ∧ i.2.2.length ≤ 20) (fun _ d => PapD d) fun d => .d d
@[simp] theorem law_bent_eq {p : Int} {fs r : List Int} : p_law_bent [.jar, .tup [.int p, tI fs], tI r] = ((M.any PapD).bind fun d => val (.d d)).req (fs ≠ [] ∧ fs.length ≤ 40 ∧ r.length ≤ 20) := spec_eq (fun a b e => by
  obtain ⟨a1, a2, a3⟩ := a
  obtain ⟨b1, b2, b3⟩ := b
  injection e with _ e
  injection e with e e2
  injection e with e
  injection e with e3 e
  injection e3 with e3
  injection e with e4
  injection e2 with e5
  have e3 : a1 = b1 := e3
  rw [e3, show a2 = b2 from tI_inj2 e4, show a3 = b3 from tI_inj2 e5]) (p, fs, r)
theorem o_law_bent : ∀ ds : List D, ds.length = 3 → (f_law_bent ds).le (p_law_bent ds) := by
  refine fun ds _ => spec_le (fun i h => ?_) ds
  obtain ⟨p, fs, r⟩ := i
  obtain ⟨h1, h2, h3⟩ := h
  have hfs := List.length_pos_iff.mpr h1
  have t1 : ∀ a b : Int, p_law_one_of [.jar, .lst [.int 0, .int 0, .int a, .int b, .int 1000, .non, .bl true, .str (Str.ofString "1"), .tup [.int 1]]] = (M.any fun d : D => d ∈ [.int 0, .int 0, .int a, .int b, .int 1000, .non, .bl true, .str (Str.ofString "1"), .tup [.int 1]]).bind fun d => val (.d d) := fun a b => one_of_any ⟨by simp, by simp⟩
  have hop : ∀ a b : Int, ∀ x ∈ [.int 0, .int 0, .int a, .int b, .int 1000, .non, .bl true, .str (Str.ofString "1"), .tup [.int 1]], Pp1 x := fun a b x hx => by
    have h1 : Pp1 (.tup [.int 1]) := .tup (by simp) (fun y hy => by rw [List.mem_singleton.mp hy]; exact ⟨rfl, eqOk_int⟩)
    simp only [List.mem_cons, List.mem_nil_iff, or_false] at hx
    rcases hx with rfl | rfl | rfl | rfl | rfl | rfl | rfl | rfl | rfl
    · exact .int
    · exact .int
    · exact .int
    · exact .int
    · exact .int
    · exact .non
    · exact .bl
    · exact .str s1Ok
    · exact h1
  have h3 : r.length ≤ 20 := h3
  have hcl : ∀ lo hi, (cutD r lo hi).length ≤ 20 := fun lo hi => Nat.le_trans cut_len h3
  simp -implicitDefEqProofs [l_neSelf, l_eqSelf, key_int, key_str, keyD, defM, initM, tail_mapS, take_mapS, drop_mapS, sl0, slI, lcAll_map, lcAll_rng, forL_map, forL_rng, -List.map_take, -List.map_drop, -List.map_tail, -List.map_reverse, f_law_bent, b_law_bent, t1, -law_one_of_eq, -List.mem_cons]
  refine ⟨by omega, fun k k0 k1 => ⟨hfs, fun x hx => ?_⟩⟩
  have px := hop _ _ x hx
  have c1 := hcl none (some k)
  have c2 := hcl (some k) none
  have c3 := hcl (some (k + 1)) none
  have ii : ∀ (l : List Int), ∀ e ∈ l.map D.int, Pp1 e := fun l e he => by
    obtain ⟨i, _, rfl⟩ := List.mem_map.mp he
    exact .int
  have two : ∀ l m : List Int, l.length ≤ 20 → m.length ≤ 20 → PapD (.tup (l.map D.int ++ x :: m.map D.int)) := fun l m hl hm => by
    refine .tup (by rw [List.length_append, List.length_cons, List.length_map, List.length_map]; omega) fun e he => ?_
    rcases List.mem_append.mp he with he | he
    · exact ii _ e he
    · rcases List.mem_cons.mp he with rfl | he
      · exact px
      · exact ii _ e he
  refine ⟨⟨⟨by omega, by omega⟩, by omega, by omega, by omega⟩, ?_⟩
  rw [one_of_any ⟨by simp, by simp⟩]
  simp -implicitDefEqProofs [l_neSelf, l_eqSelf, key_int, key_str, keyD, defM, initM, tail_mapS, take_mapS, drop_mapS, sl0, slI, lcAll_map, lcAll_rng, forL_map, forL_rng, -List.map_take, -List.map_drop, -List.map_tail, -List.map_reverse, -List.mem_cons]
  intro d hd
  simp only [List.mem_cons, List.mem_nil_iff, or_false] at hd
  rcases hd with rfl | rfl | rfl | rfl | rfl | rfl
  · exact two _ _ c1 c2
  · exact two _ _ c1 c3
  · exact PapD.ints (ns := 0 :: r) (by rw [List.length_cons]; omega)
  · exact .other rfl rfl
  · exact PapD.ints (ns := r.tail) (by rw [List.length_tail]; omega)
  · rw [← List.map_reverse]
    exact PapD.ints (by rw [List.length_reverse]; omega)

theorem showLenW (i : Int) (h : (Nat.toDigits 10 i.natAbs).length ≤ 121) : (Str.ofString (toString i)).length ≤ 124 := by
  have nat : ∀ m : Nat, (Nat.toDigits 10 m).length ≤ 121 → (Str.ofString (toString (Int.ofNat m))).length ≤ 121 := fun m hm => by
    rw [PyProof.Rows.ofString_len]
    show (Nat.repr m).length ≤ 121
    simpa [Nat.repr] using hm
  by_cases z : i < 0
  · rw [PyProof.Rows.len_text_neg z]
    have e : (0 : Int) - i = Int.ofNat i.natAbs := by simp; omega
    have := nat i.natAbs h
    rw [e]; omega
  · have e : i = Int.ofNat i.natAbs := by simp; omega
    have := nat i.natAbs h
    rw [← e] at this; omega
theorem okR_wide {i j : Int} (hi : i.natAbs < 2 ^ 400) (hj : j.natAbs < 2 ^ 400) : (D.lst [.int i, .int j]).okRepr := by
  have sh : ∀ i : Int, i.natAbs < 2 ^ 400 → (Str.ofString (toString i)).length ≤ 124 := fun i h => showLenW i (PyProof.Rows.digits10_le (by decide) (Nat.lt_of_lt_of_le h (by decide +kernel)))
  have lg : ∀ i : Int, i.natAbs < 2 ^ 400 → i.natAbs.log2 < 400 := fun i h => by
    by_cases z : i.natAbs = 0
    · rw [z]; decide
    · exact (Nat.log2_lt z).mpr h
  have l1 := lg i hi
  have l2 := lg j hj
  have s1 := sh i hi
  have s2 := sh j hj
  refine ⟨rfl, ?_, ?_, ?_⟩
  · simp only [D.py, D.pys, PyData.showable, PyData.showableAll, Bool.and_true, Bool.and_eq_true, decide_eq_true_eq]
    omega
  · simp only [D.py, D.pys, PyData.depth, PyData.depthAll]
    decide
  · have hs : (D.lst [.int i, .int j]).py.leavesShort 124 = true := by
      simp only [D.py, D.pys]
      refine PyData.leavesShort_of_canLay0 124 _ rfl ?_
      simp only [PyData.intsShort, PyData.intsShortAll, Bool.and_true, Bool.and_eq_true, decide_eq_true_eq, PyData.shown]
      exact ⟨decide_eq_true s1, decide_eq_true s2⟩
    have h := PyData.shown_le_bulk 124 (by decide) _ hs
    have hb : (D.lst [.int i, .int j]).py.bulk ≤ 100 := by
      simp [D.py, D.pys, PyData.bulk, PyData.bulkAll]
    have : sizeLine = 16777216 := rfl
    omega

--@use lotd
theorem strOk_of (s : String) : PyData.strOk (Str.ofString s) = true := by
  rw [Str.ofString_eq_toList]
  unfold PyData.strOk
  simp
  intro x _
  have := x.valid
  rcases this with h | h
  · exact Nat.lt_trans h (by decide)
  · exact h.2
theorem strOk_int {i : Int} : PyData.strOk (D.int i).py.shown = true := strOk_of _

--@use sok
theorem strOk_app {a b : Str} (h : PyData.strOk a = true) (h' : PyData.strOk b = true) : PyData.strOk (a ++ b) = true := by
  show (a.cps ++ b.cps).all _ = true
  rw [Array.all_append, Bool.and_eq_true]
  exact ⟨h, h'⟩
theorem strOk_join {sep : Str} (hs : PyData.strOk sep = true) : ∀ {ss : List Str}, (∀ s ∈ ss, PyData.strOk s = true) → PyData.strOk (Str.join sep ss) = true
  | [], _ => strOk_of ""
  | [a], h => h a (List.mem_cons_self ..)
  | a :: b :: r, h => strOk_app (strOk_app (h a (List.mem_cons_self ..)) hs) (strOk_join hs fun s q => h s (List.mem_cons_of_mem _ q))
theorem strOk_from : ∀ {ts : List Str} {k : Nat} {acc : Str}, PyData.strOk acc = true → (∀ s ∈ ts, PyData.strOk s = true) → PyData.strOk (textFrom k acc ts) = true
  | [], _, _, h, _ => h
  | t :: r, k, acc, h, hs => by
    refine strOk_from (ts := r) (k := k + 1) ?_ fun s q => hs s (List.mem_cons_of_mem _ q)
    exact strOk_app (strOk_app h (strOk_of _)) (hs t (List.mem_cons_self ..))
mutual
/-- the texts in it are shown with letters alone -/
def lfOk : PyData → Bool
  | .none => true
  | .bool _ => true
  | .int _ => true
  | .str x => PyData.strOk (reprText x)
  | .list xs => lfAll xs
  | .tuple xs => lfAll xs
  | .dict _ => false
def lfAll : List PyData → Bool
  | [] => true
  | x :: xs => lfOk x && lfAll xs
end
mutual
theorem shown_ok : ∀ {d : PyData}, lfOk d = true → PyData.strOk d.shown = true
  | .none, _ => strOk_of "None"
  | .bool b, _ => by cases b; exact strOk_of "False"; exact strOk_of "True"
  | .int _, _ => strOk_of _
  | .str _, h => h
  | .list xs, h => strOk_app (strOk_from (strOk_of "[") (shownAll_ok (xs := xs) h)) (strOk_of "]")
  | .tuple xs, h => strOk_app (strOk_app (strOk_of "(") (strOk_join (strOk_of ", ") (shownAll_ok (xs := xs) h))) (strOk_of _)
theorem shownAll_ok : ∀ {xs : List PyData}, lfAll xs = true → ∀ s ∈ PyData.shownAll xs, PyData.strOk s = true
  | [], _ => fun s h => by cases h
  | x :: xs, h => fun s hs => by
    have h : (lfOk x && lfAll xs) = true := h
    rw [Bool.and_eq_true] at h
    have hs : s ∈ PyData.shown x :: PyData.shownAll xs := hs
    rcases List.mem_cons.mp hs with rfl | hs
    · exact shown_ok h.1
    · exact shownAll_ok h.2 s hs
end

--@use lot2 wide sok2
/-- a number, a list, a lot as a text -/
def numS (n : Int) : Str := Str.ofString (toString n)
def lineS (l : List Int) : Str := Txt.join (Str.ofString " ") (l.map numS)
def pageS (ls : List (List Int)) : Str := Txt.join (Str.ofString "\n") (ls.map lineS)
theorem numS_len {n : Int} (h : n.natAbs < 2 ^ 400) : (numS n).length ≤ 124 := showLenW n (PyProof.Rows.digits10_le (by decide) (Nat.lt_of_lt_of_le h (by decide +kernel)))
theorem log_lt {n : Int} {k : Nat} (h : n.natAbs < 2 ^ k) (hk : k ≤ 1920) : n.natAbs.log2 < 1920 := by
  by_cases z : n.natAbs = 0
  · rw [z]; decide
  · exact Nat.lt_of_lt_of_le ((Nat.log2_lt z).mpr h) hk
theorem joinL_len (S : List Nat) : ∀ ps : List (List Nat), (TL.joinL S ps).length ≤ (ps.map (·.length)).sum + ps.length * S.length
  | [] => Nat.zero_le _
  | [p] => by
    show p.length ≤ _
    rw [List.map_singleton, List.sum_singleton]; omega
  | p :: q :: r => by
    have ih := joinL_len S (q :: r)
    show (p ++ (S ++ TL.joinL S (q :: r))).length ≤ _
    rw [List.length_append, List.length_append, List.map_cons, List.sum_cons, List.length_cons (a := p), Nat.succ_mul]
    omega
theorem join_len (y : Str) (ps : List Str) : (Txt.join y ps).length ≤ (ps.map (·.length)).sum + ps.length * y.length := by
  rw [TL.join_eq, TL.len_tl, TL.tl_join]
  refine Nat.le_trans (joinL_len _ _) (Nat.le_of_eq ?_)
  rw [List.map_map, List.length_map, ← TL.len_tl]
  congr 2
theorem sum_le {α : Type} {f : α → Nat} {b : Nat} : ∀ {l : List α}, (∀ x ∈ l, f x ≤ b) → (l.map f).sum ≤ l.length * b
  | [], _ => Nat.zero_le _
  | a :: l, h => by
    rw [List.map_cons, List.sum_cons, List.length_cons, Nat.succ_mul]
    have h1 := h a (List.mem_cons_self ..)
    have h2 := sum_le fun x hx => h x (List.mem_cons_of_mem _ hx)
    omega
/-- all numbers are of at most so many bits -/
def Bits4 (ls : List (List Int)) : Prop := ∀ l ∈ ls, ∀ x ∈ l, x.natAbs < 2 ^ 400
theorem line_sum {l : List Int} (h : ∀ x ∈ l, x.natAbs < 2 ^ 400) : ((l.map numS).map (·.length)).sum ≤ l.length * 124 := by
  rw [List.map_map]
  exact sum_le fun x hx => numS_len (h x hx)
theorem sp_len : (Str.ofString " ").length = 1 := by decide +kernel
theorem nl_len : (Str.ofString "\n").length = 1 := by decide +kernel
theorem lineS_len {l : List Int} (h : ∀ x ∈ l, x.natAbs < 2 ^ 400) : (lineS l).length ≤ l.length * 125 := by
  have a := join_len (Str.ofString " ") (l.map numS)
  have b := line_sum h
  rw [List.length_map, sp_len] at a
  unfold lineS; omega
theorem page_sum {ls : List (List Int)} (h : Bits4 ls) (hl : ∀ l ∈ ls, l.length ≤ 40) : ((ls.map lineS).map (·.length)).sum ≤ ls.length * 5000 := by
  rw [List.map_map]
  exact sum_le fun x hx => by
    have := lineS_len (h x hx)
    have := hl x hx
    show (lineS x).length ≤ 5000
    omega
theorem pageS_len {ls : List (List Int)} (h : Bits4 ls) (hl : ∀ l ∈ ls, l.length ≤ 40) : (pageS ls).length ≤ ls.length * 5001 := by
  have a := join_len (Str.ofString "\n") (ls.map lineS)
  have b := page_sum h hl
  rw [List.length_map, nl_len] at a
  unfold pageS; omega
theorem hexc {n k x : Nat} (h : x ∈ List.replicate k 48 ++ (Nat.toDigits 16 n).map Char.toNat) : x < 0x110000 := by
  rcases List.mem_append.mp h with h | h
  · rw [(List.mem_replicate.mp h).2]; decide
  · obtain ⟨c, _, rfl⟩ := List.mem_map.mp h
    have := c.valid
    rcases this with q | q
    · exact Nat.lt_trans q (by decide)
    · exact q.2
theorem reprChar_lt {q c x : Nat} (hq : q < 0x110000) (hc : c < 0x110000) (h : x ∈ PySem.Builtin.Str.reprChar q c) : x < 0x110000 := by
  unfold PySem.Builtin.Str.reprChar at h
  dsimp only at h
  repeat' split at h
  all_goals first
    | (simp only [List.mem_cons, List.mem_nil_iff, or_false] at h; omega)
    | (rcases List.mem_append.mp h with h | h
       · simp only [List.mem_cons, List.mem_nil_iff, or_false] at h; omega
       · exact hexc h)
theorem repr_strOk {s : Str} (h : PyData.strOk s = true) : PyData.strOk (reprText s) = true := by
  have hs : ∀ c ∈ s.cps.toList, c < 0x110000 := fun c hc => by
    have := Array.all_eq_true'.mp h c (by simpa using hc)
    simpa using this
  have hq : reprQuote s < 0x110000 := by
    unfold reprQuote
    split <;> decide
  have key : ∀ (l : List Nat) (acc : Array Nat), (∀ c ∈ l, c < 0x110000) → (∀ x ∈ acc.toList, x < 0x110000) → ∀ x ∈ (l.foldl (fun out c => out ++ (PySem.Builtin.Str.reprChar (reprQuote s) c).toArray) acc).toList, x < 0x110000 := by
    intro l
    induction l with
    | nil => exact fun acc _ h => h
    | cons c l ih =>
      intro acc hl ha
      refine ih _ (fun d hd => hl d (List.mem_cons_of_mem _ hd)) fun x hx => ?_
      rw [Array.toList_append] at hx
      rcases List.mem_append.mp hx with hx | hx
      · exact ha x hx
      · exact reprChar_lt hq (hl c (List.mem_cons_self ..)) hx
  unfold PyData.strOk
  refine Array.all_eq_true'.mpr fun x hx => ?_
  unfold reprText at hx
  rw [← Array.foldl_toList] at hx
  rcases Array.mem_push.mp hx with hx | hx
  · have k := key s.cps.toList #[reprQuote s] hs fun y hy => by
      have : y = reprQuote s := by simpa using hy
      rw [this]; exact hq
    exact decide_eq_true (k x (Array.mem_toList_iff.mpr hx))
  · rw [hx]; exact decide_eq_true hq
theorem num_ok (n : Int) : PyData.strOk (numS n) = true := strOk_of _
theorem line_ok (l : List Int) : PyData.strOk (lineS l) = true := by
  unfold lineS
  rw [TL.join_eq]
  exact strOk_join (strOk_of _) fun s hs => by
    obtain ⟨n, _, rfl⟩ := List.mem_map.mp hs
    exact num_ok n
theorem page_ok (ls : List (List Int)) : PyData.strOk (pageS ls) = true := by
  unfold pageS
  rw [TL.join_eq]
  exact strOk_join (strOk_of _) fun s hs => by
    obtain ⟨n, _, rfl⟩ := List.mem_map.mp hs
    exact line_ok n
/-- a text that is not too long is shown -/
theorem str_repr {s : Str} (h : PyData.strOk s = true) (hl : s.length ≤ 1000000) : (D.str s).okRepr := by
  refine ⟨rfl, rfl, by show (PyData.str s).depth ≤ 60; simp [PyData.depth], ?_⟩
  show (reprText s).length ≤ sizeLine
  have := StrLaws.reprText_len s fun c hc => by
    have := Array.all_eq_true'.mp h c (by simpa using hc)
    have : c < 0x110000 := by simpa using this
    omega
  have e : sizeLine = 16777216 := rfl
  omega

/-- law_odd_base(law_well_here, law_base_here); slots: 0 law_well_here, 1 law_base_here, 2 law_high, 3 law_some, 4 law_menu -/
def b_law_odd_base_1 : SM := (mSeq (mSet 4 (mLst (mCons (mTup (mCons (mC (.int 1)) (mCons (mTup (mCons (mC (.int 0)) mNil)) mNil))) (mCons (mTup (mCons (mC (.int 0)) (mCons (mTup mNil) mNil))) (mCons (mTup (mCons (mC (.bl true)) (mCons (mVar 3) mNil))) (mCons (mTup (mCons (mVar 2) (mCons (mCallB fList (mCons (mVar 3) mNil)) mNil))) (mCons (mTup (mCons (mVar 2) (mCons (mSl (mVar 3) (mPart (mC (.int 1))) mNoP) mNil))) (mCons (mTup (mCons (mVar 2) (mCons (mUn fRevT (mVar 3)) mNil))) (mCons (mTup (mCons (mC (.int 41)) (mCons (mVar 3) mNil))) mNil)))))))))
  (mSeq (mSet 4 (mBin fAdd (mVar 4) (mLst (mCons (mTup (mCons (mC .non) (mCons (mVar 3) mNil))) (mCons (mTup (mCons (mVar 2) (mCons (mBin fAdd (mVar 3) (mTup (mCons (mC (.int 9999)) mNil))) mNil))) (mCons (mTup (mCons (mCallB fStrI (mCons (mVar 2) mNil)) (mCons (mVar 3) mNil))) (mCons (mTup (mCons (mVar 2) (mCons (mBin fAdd (mSl (mVar 3) mNoP (mPart (mUn fNeg (mC (.int 1))))) (mTup (mCons (mC (.int 20000)) mNil))) mNil))) mNil)))))))
  (mRet (mCall 2 p_law_one_of (mCons (mVar 0) (mCons (mVar 4) mNil))))))
def b_law_odd_base : SM := (mSeq (mAsgN (fTupN [2, 3]) (mVar 1))
  b_law_odd_base_1)
def f_law_odd_base : FM := defM b_law_odd_base [(Str.ofString "_law_well_here"), (Str.ofString "_law_base_here"), (Str.ofString "_law_high"), (Str.ofString "_law_some"), (Str.ofString "_law_menu")]
--@use wbase text
def p_law_odd_base : FM := spec (fun i : Int × List Int => [.jar, .tup [.int i.1, tI i.2]]) (fun i => WBase i) (fun _ d => OddB d) fun d => .d (.tup [d.1, d.2])
@[simp] theorem law_odd_base_eq {p : Int} {fs : List Int} : p_law_odd_base [.jar, .tup [.int p, tI fs]] = ((M.any OddB).bind fun d => val (.d (.tup [d.1, d.2]))).req (WBase (p, fs)) := spec_eq (fun a b e => by
  obtain ⟨a1, a2⟩ := a
  obtain ⟨b1, b2⟩ := b
  injection e with _ e
  injection e with e _
  injection e with e
  injection e with e3 e
  injection e3 with e3
  injection e with e4
  have e3 : a1 = b1 := e3
  rw [e3, show a2 = b2 from tI_inj2 e4]) (p, fs)
theorem o_law_odd_base : ∀ ds : List D, ds.length = 2 → (f_law_odd_base ds).le (p_law_odd_base ds) := by
  refine fun ds _ => spec_le (fun i h => ?_) ds
  obtain ⟨p, fs⟩ := i
  have hb : BaseOk p fs := WBase.base h
  obtain ⟨q, hq, hp, hs⟩ := h
  have hp : p = (q : Int) ∨ p = -(q : Int) := hp
  have hlen : fs.length = q := hs.len
  have hp2 := hb.p2
  have hnl : fs ≠ [] := fun z => by rw [z] at hlen; simp at hlen; omega
  simp -implicitDefEqProofs [l_neSelf, l_eqSelf, key_int, key_str, keyD, defM, initM, tail_mapS, take_mapS, drop_mapS, sl0, slI, lcAll_map, lcAll_rng, forL_map, forL_rng, -List.map_take, -List.map_drop, -List.map_tail, -List.map_reverse, f_law_odd_base, b_law_odd_base, b_law_odd_base_1, -law_one_of_eq, -List.mem_cons]
  have hlog : p.natAbs.log2 < 1920 := Nat.lt_of_le_of_lt (Nat.log2_le_self _) (by omega)
  refine ⟨⟨by omega, hlog, by omega⟩, ?_⟩
  rw [one_of_any ⟨by simp, by simp⟩]
  simp -implicitDefEqProofs [l_neSelf, l_eqSelf, key_int, key_str, keyD, defM, initM, tail_mapS, take_mapS, drop_mapS, sl0, slI, lcAll_map, lcAll_rng, forL_map, forL_rng, -List.map_take, -List.map_drop, -List.map_tail, -List.map_reverse, -List.mem_cons]
  intro d hd
  have eI : EqOk 59 (tI fs) := eqOk_tI
  simp only [List.mem_cons, List.mem_nil_iff, or_false] at hd
  rcases hd with rfl | rfl | rfl | rfl | rfl | rfl | rfl | rfl | rfl | rfl | rfl
  · exact ⟨_, _, odd_num rfl rfl rfl eqOk_int (eqOk_tI (ns := [0])), rfl⟩
  · exact ⟨_, _, odd_num rfl rfl rfl eqOk_int (eqOk_tI (ns := [])), rfl⟩
  · exact ⟨_, _, odd_num rfl rfl rfl eqOk_bl eI, rfl⟩
  · exact ⟨_, _, ⟨eqOk_int, by rw [eqOk_lst (n := 58)]; simp, .inr ⟨p, rfl, hp2, .other rfl rfl, fun ⟨_, e, _⟩ => by cases e⟩⟩, rfl⟩
  · exact ⟨_, _, odd_figs hp2 (ns := fs.tail) (by rw [List.length_tail]; omega) fun z => by
      have := z.len
      rw [List.length_tail] at this
      have := hb.len
      omega, rfl⟩
  · rw [← List.map_reverse]
    exact ⟨_, _, odd_figs hp2 (ns := fs.reverse) (by rw [List.length_reverse]; omega) fun z => by
      have a1 := hb.asc
      have a2 := List.pairwise_reverse.mp z.asc
      match fs, hlen, a1, a2 with
      | a :: b :: l, _, a1, a2 =>
        have h1 := (List.pairwise_cons.mp a1).1 b (by simp)
        have h2 := (List.pairwise_cons.mp a2).1 b (by simp)
        omega
      | [a], hl, _, _ => simp at hl; omega
      | [], hl, _, _ => simp at hl; omega, rfl⟩
  · exact ⟨_, _, odd_num rfl rfl rfl eqOk_int eI, rfl⟩
  · exact ⟨_, _, odd_num rfl rfl rfl eqOk_non eI, rfl⟩
  · exact ⟨_, _, odd_figs hp2 (ns := fs ++ [9999]) (by rw [List.length_append, List.length_singleton]; omega) fun z => by
      have := z.len
      rw [List.length_append, List.length_singleton] at this
      have := hb.len
      omega, by unfold tI; rw [List.map_append]; rfl⟩
  · exact ⟨_, _, odd_num rfl rfl rfl (eqOk_str.mpr (num_ok p)) eI, rfl⟩
  · rw [← List.map_dropLast]
    exact ⟨_, _, odd_figs hp2 (ns := fs.dropLast ++ [20000]) (by rw [List.length_append, List.length_singleton, List.length_dropLast]; omega) fun z => by
      have := z.bnd 20000 (by simp)
      omega, by unfold tI; rw [List.map_append]; rfl⟩

/-- Base_write(self, number); slots: 0 self, 1 number -/
def b_Base_write : SM := (mSeq (mDrop (mCall 1 f_check_integer (mCons (mVar 1) mNil)))
  (mRet (mCall 2 f_written_by (mCons (mVar 0) (mCons (mVar 1) mNil)))))
def f_Base_write : FM := defM b_Base_write [(Str.ofString "self"), (Str.ofString "number")]
theorem Base_write_eq {p n : Int} {fs : List Int} {k : Nat} (h : BaseOk p fs) (hs : StopB p fs n k) (hk : k ≤ 100000) : f_Base_write [dBase p fs, .int n] = val (.d (dSpell p fs n k)) := by
  have e := written_by_eq h hs hk
  (conv => { lhs; simp -implicitDefEqProofs [l_neSelf, l_eqSelf, key_int, key_str, keyD, defM, initM, tail_mapS, take_mapS, drop_mapS, sl0, slI, lcAll_map, lcAll_rng, forL_map, forL_rng, -List.map_take, -List.map_drop, -List.map_tail, -List.map_reverse, f_Base_write, b_Base_write, e] })
theorem Base_write_bad {p : Int} {fs : List Int} {d : D} (h : d.known = true) (n : d.isI = false) : f_Base_write [dBase p fs, d] = exn ⟨"InvalidNumber", [("given", d)]⟩ := by
  have e := check_integer_bad h n
  (conv => { lhs; simp -implicitDefEqProofs [l_neSelf, l_eqSelf, key_int, key_str, keyD, defM, initM, tail_mapS, take_mapS, drop_mapS, sl0, slI, lcAll_map, lcAll_rng, forL_map, forL_rng, -List.map_take, -List.map_drop, -List.map_tail, -List.map_reverse, f_Base_write, b_Base_write, e] })

/-- law_right(law_well_here); slots: 0 law_well_here, 1 law_base_here, 2 law_mine, 3 law_turn, 4 law_row, 5 law_spot, 6 law_thing, 7 law_due, 8 law_said, 9 law_told, 10 law_odd, 11 law_wrong, 12 law_k -/
def b_law_right : SM := (mSeq (mSet 1 (mCall 1 p_law_base (mCons (mVar 0) mNil)))
  (mSeq (mSet 2 (mCall 2 (mkM false (Str.ofString "Base") f_Base_init) (mCons (mIxV 1 (mC (.int 0))) (mCons (mIxV 1 (mC (.int 1))) mNil))))
  (mSeq (mFor (mRng rg1 (mCons (mC (.int 8)) mNil)) (fName 3) (mSeq (mSet 4 (mCallB fTuple (mCons (mLc (mRng rg1 (mCons (mCall 2 p_law_dip (mCons (mVar 0) (mCons (mC (.int 7)) mNil))) mNil)) (fName 12) mYes (mCall 2 p_law_one_of (mCons (mVar 0) (mCons (mIxV 1 (mC (.int 1))) mNil))) [12]) mNil)))
  (mSeq (mSet 5 (mCall 2 p_law_one_of (mCons (mVar 0) (mCons (mLst (mCons (mCall 2 f_law_value (mCons (mVar 1) (mCons (mVar 4) mNil))) (mCons (mCall 2 f_law_value (mCons (mVar 1) (mCons (mVar 4) mNil))) (mCons (mBin fSub (mCall 2 p_law_dip (mCons (mVar 0) (mCons (mC (.int 60)) mNil))) (mC (.int 30))) (mCons (mBin fAdd (mBin fPow (mC (.int 10)) (mC (.int 12))) (mC (.int 7))) mNil))))) mNil))))
  (mSeq (mFor (mItems (mLst (mCons (mVar 4) (mCons (mCall 3 p_law_bent (mCons (mVar 0) (mCons (mVar 1) (mCons (mVar 4) mNil)))) (mCons (mCall 2 f_law_written (mCons (mVar 1) (mCons (mVar 5) mNil))) mNil))))) (fName 6) (mSeq (mSet 7 (mAndV (mCall 2 f_law_is_row (mCons (mVar 1) (mCons (mVar 6) mNil))) (mBin fEq (mCall 2 f_law_value (mCons (mVar 1) (mCons (mVar 6) mNil))) (mVar 5))))
  (mSeq (mSet 8 (mTup (mCons (mC (.str (Str.ofString "written"))) (mCons (mIxV 1 (mC (.int 0))) (mCons (mIxV 1 (mC (.int 1))) (mCons (mVar 5) mNil))))))
  (mSeq (mIf (mB (mBin fNe (mCallB fRepr (mCons (mLst (mCons (mCall 2 f_accepts (mCons (mVar 8) (mCons (mVar 6) mNil))) (mCons (mCallK 2 0 2 [1, 0] f_accepts mNil (mCons (mVar 6) (mCons (mVar 8) mNil))) mNil))) mNil)) (mCallB fRepr (mCons (mLst (mCons (mVar 7) (mCons (mVar 7) mNil))) mNil)))) (mRet (mC (.bl false))) mNext)
  (mSeq (mSet 9 (mLst (mCons (mMeth (Str.ofString "Base") (Str.ofString "write") 2 f_Base_write (mVar 2) (mCons (mVar 5) mNil)) (mCons (mCall 2 f_law_written (mCons (mVar 1) (mCons (mVar 5) mNil))) mNil))))
  (mIf (mAnd (mB (mVar 7)) (mB (mBin fNe (mVar 9) (mLst (mCons (mVar 6) (mCons (mVar 6) mNil)))))) (mRet (mC (.bl false))) mNext))))) [6, 7, 8, 9])
  (mSeq (mIf (mB (mBin fNe (mUn fIs (mMeth (Str.ofString "Base") (Str.ofString "write") 2 f_Base_write (mVar 2) (mCons (mVar 5) mNil))) (mUn fIs (mCall 2 f_law_written (mCons (mVar 1) (mCons (mVar 5) mNil)))))) (mRet (mC (.bl false))) mNext)
  (mSeq (mSet 10 (mCall 2 p_law_odd_base (mCons (mVar 0) (mCons (mVar 1) mNil))))
  (mSeq (mIf (mOr (mB (mBin fNotB (mCall 2 f_accepts (mCons (mTup (mCons (mC (.str (Str.ofString "written"))) (mCons (mIxV 10 (mC (.int 0))) (mCons (mIxV 10 (mC (.int 1))) (mCons (mVar 5) mNil))))) (mCons (mVar 4) mNil))) (mC (.bl false)))) (mB (mBin fNotB (mCall 2 f_accepts (mCons (mTup (mCons (mC (.str (Str.ofString "all"))) (mCons (mIxV 10 (mC (.int 0))) (mCons (mIxV 10 (mC (.int 1))) mNil)))) (mCons (mTup mNil) mNil))) (mC (.bl false))))) (mRet (mC (.bl false))) mNext)
  (mFor (mItems (mLst (mCons (mC .non) (mCons (mC (.bl true)) (mCons (mC (.str (Str.ofString "1"))) (mCons (mTup (mCons (mC (.int 1)) mNil)) mNil)))))) (fName 11) (mIf (mB (mBin fNotB (mCall 2 f_accepts (mCons (mTup (mCons (mC (.str (Str.ofString "written"))) (mCons (mIxV 1 (mC (.int 0))) (mCons (mIxV 1 (mC (.int 1))) (mCons (mVar 11) mNil))))) (mCons (mVar 4) mNil))) (mC (.bl false)))) (mRet (mC (.bl false))) mNext) [11]))))))) [3, 4, 5, 6, 7, 8, 9, 10, 11])
  (mRet (mBin fIsB (mCall 2 f_accepts (mCons (mTup (mCons (mC (.str (Str.ofString "written"))) (mCons (mIxV 1 (mC (.int 0))) (mCons (mIxV 1 (mC (.int 1))) (mCons (mC (.int 5)) mNil))))) (mCons (mCall 1 p_law_odd_papers (mCons (mVar 0) mNil)) mNil))) (mC (.bl false)))))))
def f_law_right : FM := defM b_law_right [(Str.ofString "_law_well_here"), (Str.ofString "_law_base_here"), (Str.ofString "_law_mine"), (Str.ofString "_law_turn"), (Str.ofString "_law_row"), (Str.ofString "_law_spot"), (Str.ofString "_law_thing"), (Str.ofString "_law_due"), (Str.ofString "_law_said"), (Str.ofString "_law_told"), (Str.ofString "_law_odd"), (Str.ofString "_law_wrong"), (Str.ofString "_law_k")]
--@use wbase base3 claim
theorem told_odd {x : D × D} (h : OddB x) : f_base_told [x.1, x.2] = val (.d .non) := by
  obtain ⟨a, b⟩ := x
  obtain ⟨_, _, h | ⟨p, rfl, hp, hr, hn⟩⟩ := h
  · exact base_told_bad h.1 h.2.1 h.2.2
  · cases hf : figsDue (p.natAbs : Int) b with
    | some i => exact base_told_fig hp hr hf
    | none => exact absurd (figs_base hp hf) hn
theorem accW {p : Int} {fs : List Int} {n d : D} (h : BaseOk p fs) (hn : n.known = true) (he : EqOk 59 n) (hd : PapD d) : f_accepts [.tup [.str (Str.ofString "written"), .int p, tI fs, n], d] = val (.d (.bl (claimW p fs n d))) :=
  (accepts_written eqOk_int eqOk_tI he).trans (accepts_base_w h hn hd)
theorem stop_uniq {p n : Int} {fs : List Int} {k j : Nat} (h1 : StopB p fs n k) (h2 : StopB p fs n j) : k = j := by
  have key : ∀ {k j : Nat}, StopB p fs n k → StopB p fs n j → ¬ k < j := fun {k j} h1 h2 h => by
    obtain ⟨a, b⟩ := h2.go k h
    rcases h1.stop with z | z
    · exact a z
    · exact b z
  have := key h1 h2
  have := key h2 h1
  omega
/-- a row that adds up to a number is the one by which it is written -/
theorem spell_row {p : Int} {fs r : List Int} {k : Nat} (h : BaseOk p fs) (hr : ∀ f ∈ r, f ∈ fs) (h0 : r.head? ≠ some 0) (hs : StopB p fs (valB p r) k) : dSpell p fs (valB p r) k = tI r := by
  obtain ⟨s1, s2⟩ := h.row_stop hr h0
  have := stop_uniq hs s1
  subst this
  unfold dSpell
  rw [if_pos s2, h.row_found hr]
theorem spell_pap {p n : Int} {fs : List Int} {k : Nat} (hk : k < 2000) : PapD (dSpell p fs n k) := by
  unfold dSpell
  split
  · exact PapD.ints (by rw [List.length_reverse]; unfold foundB; rw [List.length_map, List.length_range]; omega)
  · exact .other rfl rfl
theorem okBB {a b : Bool} : (D.lst [.bl a, .bl b]).okRepr := (rp_lst (n := 0) (w := 0) (ds := [.bl a, .bl b]) fun d hd => by
  simp only [List.mem_cons, List.mem_nil_iff, or_false] at hd
  rcases hd with rfl | rfl <;> exact rp_bl).ok (by decide) (by simp)
abbrev bThing : SM := (mSeq (mSet 7 (mAndV (mCall 2 f_law_is_row (mCons (mVar 1) (mCons (mVar 6) mNil))) (mBin fEq (mCall 2 f_law_value (mCons (mVar 1) (mCons (mVar 6) mNil))) (mVar 5))))
  (mSeq (mSet 8 (mTup (mCons (mC (.str (Str.ofString "written"))) (mCons (mIxV 1 (mC (.int 0))) (mCons (mIxV 1 (mC (.int 1))) (mCons (mVar 5) mNil))))))
  (mSeq (mIf (mB (mBin fNe (mCallB fRepr (mCons (mLst (mCons (mCall 2 f_accepts (mCons (mVar 8) (mCons (mVar 6) mNil))) (mCons (mCallK 2 0 2 [1, 0] f_accepts mNil (mCons (mVar 6) (mCons (mVar 8) mNil))) mNil))) mNil)) (mCallB fRepr (mCons (mLst (mCons (mVar 7) (mCons (mVar 7) mNil))) mNil)))) (mRet (mC (.bl false))) mNext)
  (mSeq (mSet 9 (mLst (mCons (mMeth (Str.ofString "Base") (Str.ofString "write") 2 f_Base_write (mVar 2) (mCons (mVar 5) mNil)) (mCons (mCall 2 f_law_written (mCons (mVar 1) (mCons (mVar 5) mNil))) mNil))))
  (mIf (mAnd (mB (mVar 7)) (mB (mBin fNe (mVar 9) (mLst (mCons (mVar 6) (mCons (mVar 6) mNil)))))) (mRet (mC (.bl false))) mNext)))))
def stI (p : Int) (fs r : List Int) (n : Int) (i : Nat) : Sl := [some (.d .jar), some (.d (.tup [.int p, tI fs])), some (.d (dBase p fs)), some (.d (.int i)), some (.d (tI r)), some (.d (.int n)), none, none, none, none, none, none, none]
def stR (p : Int) (fs : List Int) : Sl := [some (.d .jar), some (.d (.tup [.int p, tI fs])), some (.d (dBase p fs)), none, none, none, none, none, none, none, none, none, none]
theorem law_right_sat : (f_law_right [.jar]).sat fun r => r = .v (.d (.bl true)) := by
  simp -implicitDefEqProofs [l_neSelf, l_eqSelf, key_int, key_str, keyD, defM, initM, tail_mapS, take_mapS, drop_mapS, sl0, slI, lcAll_map, lcAll_rng, forL_map, forL_rng, -List.map_take, -List.map_drop, -List.map_tail, -List.map_reverse, f_law_right, b_law_right]
  intro p fs hW
  have hb : BaseOk p fs := hW.base
  have mk := mk_Base hb
  simp -implicitDefEqProofs [l_neSelf, l_eqSelf, key_int, key_str, keyD, defM, initM, tail_mapS, take_mapS, drop_mapS, sl0, slI, lcAll_map, lcAll_rng, forL_map, forL_rng, -List.map_take, -List.map_drop, -List.map_tail, -List.map_reverse, mk]
  have hlen := hb.len
  obtain ⟨q, hq, hpq, hsg⟩ := hW
  have hpq : p = (q : Int) ∨ p = -(q : Int) := hpq
  have hF : ∀ f ∈ fs, f.natAbs ≤ 500 := fun f hf => by have := hsg.bnd f hf; omega
  have hT := one_of_T (fs := fs) (by omega)
  have tW : ∀ v a : Int, p_law_one_of [.jar, .lst [.int v, .int v, .int (a - 30), .int 1000000000007]] = (M.any fun x : Int => x ∈ [v, v, a - 30, 1000000000007]).bind fun x => val (.d (.int x)) := fun v a => one_of_I (ns := [v, v, a - 30, 1000000000007]) (by simp)
  refine sat_for (fun _ ρ => ρ = stR p fs) rfl ?_ fun ρ e => ?_
  · rintro i l' ρ rfl
    unfold stR
    simp -implicitDefEqProofs [l_neSelf, l_eqSelf, key_int, key_str, keyD, defM, initM, tail_mapS, take_mapS, drop_mapS, sl0, slI, lcAll_map, lcAll_rng, forL_map, forL_rng, -List.map_take, -List.map_drop, -List.map_tail, -List.map_reverse, -law_one_of_eq, -law_one_of_eqT, hT, -List.mem_cons]
    intro a a0 a1
    refine ⟨by omega, fun r hr hrf => ?_⟩
    have hrl : r.length ≤ 6 := by omega
    have ev := law_value_eq (r := r) hb
    have hvb : (valB p r).natAbs ≤ 500 * 10 ^ r.length := valB_bound (Q := 10) (by omega) (by decide) fun f hf => hF f (hrf f hf)
    have hvb2 : (valB p r).natAbs ≤ 500 * 10 ^ 6 := Nat.le_trans hvb (Nat.mul_le_mul_left _ (Nat.pow_le_pow_right (by decide) hrl))
    simp -implicitDefEqProofs [l_neSelf, l_eqSelf, key_int, key_str, keyD, defM, initM, tail_mapS, take_mapS, drop_mapS, sl0, slI, lcAll_map, lcAll_rng, forL_map, forL_rng, -List.map_take, -List.map_drop, -List.map_tail, -List.map_reverse, -law_one_of_eq, -law_one_of_eqT, hT, tW, ev, -List.mem_cons]
    intro c c0 c1 n hn
    have hnb : n.natAbs ≤ 2 ^ 41 := by
      simp only [List.mem_cons, List.mem_nil_iff, or_false] at hn
      rcases hn with rfl | rfl | rfl | rfl <;> omega
    obtain ⟨k, hk, hst⟩ := hb.stop_exF hF hnb
    have ew := law_written_eq hb hst (by omega)
    have hpl : ∀ d ∈ [D.tup (List.map D.int r), D.non], PapD d := fun d hd => by
      simp only [List.mem_cons, List.mem_nil_iff, or_false] at hd
      rcases hd with rfl | rfl
      · exact PapD.ints (ns := r) (by omega)
      · exact .other rfl rfl
    have ebw := Base_write_eq hb hst (by omega)
    have step : ∀ d, PapD d → turn (fName 6) (bThing) [6, 7, 8, 9] d (stI p fs r n i) = nx (stI p fs r n i) := fun d hd => by
      have e1 := law_is_row_gen (p := p) (fs := fs) hd
      have e2 := accW hb (n := .int n) rfl eqOk_int hd
      unfold stI
      cases hr : rowR fs d with
      | none =>
        have e3 : claimW p fs (.int n) d = false := by unfold claimW; rw [hr]
        rw [hr] at e1
        rw [e3] at e2
        (conv => { lhs; simp -implicitDefEqProofs [l_neSelf, l_eqSelf, key_int, key_str, keyD, defM, initM, tail_mapS, take_mapS, drop_mapS, sl0, slI, lcAll_map, lcAll_rng, forL_map, forL_rng, -List.map_take, -List.map_drop, -List.map_tail, -List.map_reverse, e1, e2, ew, ebw, l_repr, okBB, or_imp, forall_and, and_imp, forall_eq] })
      | some s =>
        have e3 : claimW p fs (.int n) d = decide (valB p s = n) := by unfold claimW; rw [hr]
        rw [hr] at e1
        rw [e3] at e2
        obtain ⟨rfl, hm, h0⟩ := rowR_tup hr
        have e4 := law_value_eq (r := s) hb
        by_cases c : valB p s = n
        · subst c
          have e5 := spell_row hb hm h0 hst
          rw [e5] at ew ebw
          (conv => { lhs; simp -implicitDefEqProofs [l_neSelf, l_eqSelf, key_int, key_str, keyD, defM, initM, tail_mapS, take_mapS, drop_mapS, sl0, slI, lcAll_map, lcAll_rng, forL_map, forL_rng, -List.map_take, -List.map_drop, -List.map_tail, -List.map_reverse, e1, e2, e4, ew, ebw, l_repr, okBB, or_imp, forall_and, and_imp, forall_eq] })
        · (conv => { lhs; simp -implicitDefEqProofs [l_neSelf, l_eqSelf, key_int, key_str, keyD, defM, initM, tail_mapS, take_mapS, drop_mapS, sl0, slI, lcAll_map, lcAll_rng, forL_map, forL_rng, -List.map_take, -List.map_drop, -List.map_tail, -List.map_reverse, e1, e2, e4, c, ew, ebw, l_repr, okBB, or_imp, forall_and, and_imp, forall_eq] })
    simp -implicitDefEqProofs [l_neSelf, l_eqSelf, key_int, key_str, keyD, defM, initM, tail_mapS, take_mapS, drop_mapS, sl0, slI, lcAll_map, lcAll_rng, forL_map, forL_rng, -List.map_take, -List.map_drop, -List.map_tail, -List.map_reverse, ew, -List.mem_cons]
    refine ⟨⟨fun z => by rw [z] at hlen; simp at hlen; omega, by omega, by omega⟩, fun d hd => ?_⟩
    rw [forL_end (ρ := [some (.d .jar), some (.d (.tup [.int p, tI fs])), some (.d (dBase p fs)), some (.d (.int i)), some (.d (.tup (r.map .int))), some (.d (.int n)), none, none, none, none, none, none, none]) (fun _ => stI p fs r n i) rfl fun pre a post e => step a ?_]
    · unfold stI
      have hIs : M.lift (fIs (dSpell p fs n k)) = M.one (.d (.bl (decide (itB p fs k n ≠ 0)))) := by
        unfold dSpell
        by_cases c : itB p fs k n = 0
        · rw [if_pos c]; simp [c]
        · rw [if_neg c]; simp [c]
      have hWB : WBase (p, fs) := ⟨q, hq, hpq, hsg⟩
      have hpr : PapD (tI r) := PapD.ints (by omega)
      have w1 := accW hb (n := .non) rfl eqOk_non hpr
      have w2 := accW hb (n := .bl true) rfl eqOk_bl hpr
      have w3 := accW hb (n := .str (Str.ofString "1")) rfl (eqOk_str.mpr s1Ok) hpr
      have w4 := accW hb (n := .tup [.int 1]) rfl (eqOk_tI (ns := [1])) hpr
      simp -implicitDefEqProofs [l_neSelf, l_eqSelf, key_int, key_str, keyD, defM, initM, tail_mapS, take_mapS, drop_mapS, sl0, slI, lcAll_map, lcAll_rng, forL_map, forL_rng, -List.map_take, -List.map_drop, -List.map_tail, -List.map_reverse, ew, ebw, hIs, hWB, -List.mem_cons, or_imp, forall_and, and_imp, forall_eq]
      refine ⟨by simp [or_imp, forall_and, and_imp, forall_eq], fun x y hxy => ?_⟩
      have tld := told_odd hxy
      have o1 := (accepts_written (n := .int n) (d := tI r) hxy.1 hxy.2.1 eqOk_int).trans (accepts_base_bad tld)
      have o2 := (accepts_all (d := .tup []) hxy.1 hxy.2.1).trans (accepts_base_badA tld)
      simp -implicitDefEqProofs [l_neSelf, l_eqSelf, key_int, key_str, keyD, defM, initM, tail_mapS, take_mapS, drop_mapS, sl0, slI, lcAll_map, lcAll_rng, forL_map, forL_rng, -List.map_take, -List.map_drop, -List.map_tail, -List.map_reverse, o1, o2, w1, w2, w3, w4, claimW, forL_cons]
    · have ha : a ∈ [D.tup (List.map D.int r), d, dSpell p fs n k] := by rw [e]; simp
      simp only [List.mem_cons, List.mem_nil_iff, or_false] at ha
      rcases ha with rfl | rfl | rfl
      · exact PapD.ints (ns := r) (by omega)
      · exact hd
      · exact spell_pap (by omega)
  · subst e
    unfold stR
    simp -implicitDefEqProofs [l_neSelf, l_eqSelf, key_int, key_str, keyD, defM, initM, tail_mapS, take_mapS, drop_mapS, sl0, slI, lcAll_map, lcAll_rng, forL_map, forL_rng, -List.map_take, -List.map_drop, -List.map_tail, -List.map_reverse]
    intro d hd
    have e := accW hb (n := .int 5) rfl eqOk_int (oddP_pap hd)
    have e2 : claimW p fs (.int 5) d = false := by unfold claimW; rw [odd_row hd]
    rw [e2] at e
    simp -implicitDefEqProofs [l_neSelf, l_eqSelf, key_int, key_str, keyD, defM, initM, tail_mapS, take_mapS, drop_mapS, sl0, slI, lcAll_map, lcAll_rng, forL_map, forL_rng, -List.map_take, -List.map_drop, -List.map_tail, -List.map_reverse, e]
def p_law_right : FM := fun ds => (val (.d (.bl true))).req (ds = [.jar])
@[simp] theorem law_right_eq : p_law_right [.jar] = val (.d (.bl true)) := req_of rfl
theorem o_law_right : ∀ ds : List D, ds.length = 1 → (f_law_right ds).le (p_law_right ds) := fun ds _ => le_val fun e => by subst e; exact law_right_sat

/-- a law that asks all turns -/
theorem all_true {α : Type} {step : α → M (List D)} {l : List α} (h : ∀ a ∈ l, (step a).sat fun ys => ys = [.bl true]) : (lcAll step l).sat fun ys => ys = l.map fun _ => D.bl true := by
  refine lcAll_sat1 (fun _ y => y = .bl true) (fun a ha => (h a ha).mono fun ys e => ⟨_, e, rfl⟩) fun ys hp => ?_
  clear h
  induction hp with
  | nil => rfl
  | cons e _ ih => rw [e, ih]; rfl

/-- law(law_cells); slots: 0 law_cells, 1 law_turn -/
def b_law : SM := (mRet (mCallB fAll (mCons (mLc (mRng rg1 (mCons (mCallB fMax2 (mCons (mC (.int 2)) (mCons (mCallB fMin2 (mCons (mCallB fLen (mCons (mVar 0) mNil)) (mCons (mC (.int 5)) mNil))) mNil))) mNil)) (fName 1) mYes (mCall 1 p_law_right (mCons (mCall 2 p_law_well (mCons (mVar 0) (mCons (mVar 1) mNil))) mNil)) [1]) mNil)))
def f_law : FM := defM b_law [(Str.ofString "_law_cells"), (Str.ofString "_law_turn")]
--@use lawall
theorem law_true : ∀ ns : List Int, ns.length ≤ 63 → (f_law [.rls (ns.map .int)]).wp [] fun r _ => r = .v (.d (.bl true)) := by
  intro ns hn
  refine law_sat ?_
  simp -implicitDefEqProofs [l_neSelf, l_eqSelf, key_int, key_str, keyD, defM, initM, tail_mapS, take_mapS, drop_mapS, sl0, slI, lcAll_map, lcAll_rng, forL_map, forL_rng, -List.map_take, -List.map_drop, -List.map_tail, -List.map_reverse, f_law, b_law]
  refine ⟨by omega, ?_⟩
  refine (all_true fun i hi => ?_).bind fun ys e => ?_
  · have hi := List.mem_range.mp hi
    have e := law_well_eq (ns := ns) (k := (i : Int)) ⟨by omega, by omega⟩ hn
    simp -implicitDefEqProofs [l_neSelf, l_eqSelf, key_int, key_str, keyD, defM, initM, tail_mapS, take_mapS, drop_mapS, sl0, slI, lcAll_map, lcAll_rng, forL_map, forL_rng, -List.map_take, -List.map_drop, -List.map_tail, -List.map_reverse, e]
  · subst e
    simp -implicitDefEqProofs [l_neSelf, l_eqSelf, key_int, key_str, keyD, defM, initM, tail_mapS, take_mapS, drop_mapS, sl0, slI, lcAll_map, lcAll_rng, forL_map, forL_rng, -List.map_take, -List.map_drop, -List.map_tail, -List.map_reverse]

def top (i : Nat) : Stmt := PySem.Challenge.pw_onesums_k77_whole_rows_of_figures_judged.main.body.getD i (.Pass ⟨0, 0, 0, 0⟩)
theorem xi_InvalidBase : XInit (Str.ofString "self") (Str.ofString "given") (Str.ofString "given") (clsB (top 6) 0) := ⟨⟨rfl, rfl, rfl, by decide +kernel, rfl, by decide +kernel, by decide +kernel⟩, ⟨_, _, _, _, rfl⟩, .inl rfl, .inl rfl, by decide, by decide, by decide, by decide, fun _ _ _ _ _ _ _ us hl => match us, hl with | [_, _], _ => rfl⟩
theorem xi_InvalidFigures : XInit (Str.ofString "self") (Str.ofString "index") (Str.ofString "index") (clsB (top 8) 0) := ⟨⟨rfl, rfl, rfl, by decide +kernel, rfl, by decide +kernel, by decide +kernel⟩, ⟨_, _, _, _, rfl⟩, .inl rfl, .inl rfl, by decide, by decide, by decide, by decide, fun _ _ _ _ _ _ _ us hl => match us, hl with | [_, _], _ => rfl⟩
theorem xi_InvalidList : XInit (Str.ofString "self") (Str.ofString "given") (Str.ofString "given") (clsB (top 4) 0) := ⟨⟨rfl, rfl, rfl, by decide +kernel, rfl, by decide +kernel, by decide +kernel⟩, ⟨_, _, _, _, rfl⟩, .inl rfl, .inl rfl, by decide, by decide, by decide, by decide, fun _ _ _ _ _ _ _ us hl => match us, hl with | [_, _], _ => rfl⟩
theorem xi_InvalidLists : XInit (Str.ofString "self") (Str.ofString "index") (Str.ofString "index") (clsB (top 7) 0) := ⟨⟨rfl, rfl, rfl, by decide +kernel, rfl, by decide +kernel, by decide +kernel⟩, ⟨_, _, _, _, rfl⟩, .inl rfl, .inl rfl, by decide, by decide, by decide, by decide, fun _ _ _ _ _ _ _ us hl => match us, hl with | [_, _], _ => rfl⟩
theorem xi_InvalidNumber : XInit (Str.ofString "self") (Str.ofString "given") (Str.ofString "given") (clsB (top 5) 0) := ⟨⟨rfl, rfl, rfl, by decide +kernel, rfl, by decide +kernel, by decide +kernel⟩, ⟨_, _, _, _, rfl⟩, .inl rfl, .inl rfl, by decide, by decide, by decide, by decide, fun _ _ _ _ _ _ _ us hl => match us, hl with | [_, _], _ => rfl⟩
/-- what the top has left beside the defs -/
structure Top (w : World) (K : PySem.W.Frag) (mg : Str → Option Value) : Prop where
  n_abs : mg (Str.ofString "abs") = none
  n_all : mg (Str.ofString "all") = none
  n_any : mg (Str.ofString "any") = none
  n_bool : mg (Str.ofString "bool") = none
  n_dict : mg (Str.ofString "dict") = none
  n_divmod : mg (Str.ofString "divmod") = none
  n_int : mg (Str.ofString "int") = none
  n_isinstance : mg (Str.ofString "isinstance") = none
  n_len : mg (Str.ofString "len") = none
  n_list : mg (Str.ofString "list") = none
  n_max : mg (Str.ofString "max") = none
  n_min : mg (Str.ofString "min") = none
  n_range : mg (Str.ofString "range") = none
  n_repr : mg (Str.ofString "repr") = none
  n_set : mg (Str.ofString "set") = none
  n_sorted : mg (Str.ofString "sorted") = none
  n_str : mg (Str.ofString "str") = none
  n_sum : mg (Str.ofString "sum") = none
  n_tuple : mg (Str.ofString "tuple") = none
  n_zip : mg (Str.ofString "zip") = none
  c_FIGURES : ∃ t, mg (Str.ofString "FIGURES") = some (.str (Str.ofString "0123456789") t)
  kd_LENGTHS : KTab w K mg (Str.ofString "LENGTHS") [((Str.ofString "fills"), 2), ((Str.ofString "twice"), 3), ((Str.ofString "never"), 3), ((Str.ofString "joins"), 2), ((Str.ofString "alone"), 2), ((Str.ofString "written"), 4), ((Str.ofString "round"), 3), ((Str.ofString "all"), 3)]
  c_MOST_BASE : ∃ t, mg (Str.ofString "MOST_BASE") = some (.int (40) t)
  c_MOST_FIGURE : ∃ t, mg (Str.ofString "MOST_FIGURE") = some (.int (10000) t)
  c_MOST_LISTS : ∃ t, mg (Str.ofString "MOST_LISTS") = some (.int (6) t)
  c_MOST_NUMBERS : ∃ t, mg (Str.ofString "MOST_NUMBERS") = some (.int (40) t)
  c_MOST_SIZE : ∃ t, mg (Str.ofString "MOST_SIZE") = some (.int (4096) t)
  c_OTHERS : ∃ t, mg (Str.ofString "OTHERS") = some (.int (1) t)
  c_OWN : ∃ t, mg (Str.ofString "OWN") = some (.int (0) t)
  fx_Base_by_rest : FldX K mg (Str.ofString "Base") (Str.ofString "by_rest")
  fx_Base_power : FldX K mg (Str.ofString "Base") (Str.ofString "power")
  fx_Base_signs : FldX K mg (Str.ofString "Base") (Str.ofString "signs")
  fx_Lot_kept : FldX K mg (Str.ofString "Lot") (Str.ofString "kept")
  isi_Base : IsiX K mg (Str.ofString "Base")
  sub_Base : (InsX K mg (Str.ofString "Lot") ∧ SubX K mg (Str.ofString "Lot") (Str.ofString "Base") ((Str.ofString "Lot") == (Str.ofString "Base"))) ∧ (InsX K mg (Str.ofString "Base") ∧ SubX K mg (Str.ofString "Base") (Str.ofString "Base") ((Str.ofString "Base") == (Str.ofString "Base")))
  isi_Lot : IsiX K mg (Str.ofString "Lot")
  sub_Lot : (InsX K mg (Str.ofString "Lot") ∧ SubX K mg (Str.ofString "Lot") (Str.ofString "Lot") ((Str.ofString "Lot") == (Str.ofString "Lot"))) ∧ (InsX K mg (Str.ofString "Base") ∧ SubX K mg (Str.ofString "Base") (Str.ofString "Lot") ((Str.ofString "Base") == (Str.ofString "Lot")))
  nv_InvalidBase : ∃ a, mg (Str.ofString "InvalidBase") = some (.ref a)
  nv_InvalidFigures : ∃ a, mg (Str.ofString "InvalidFigures") = some (.ref a)
  nv_InvalidLists : ∃ a, mg (Str.ofString "InvalidLists") = some (.ref a)
  x1_InvalidBase : XK1 K mg (Str.ofString "InvalidBase") (Str.ofString "given")
  x1_InvalidFigures : XK1 K mg (Str.ofString "InvalidFigures") (Str.ofString "index")
  x1_InvalidList : XK1 K mg (Str.ofString "InvalidList") (Str.ofString "given")
  x1_InvalidLists : XK1 K mg (Str.ofString "InvalidLists") (Str.ofString "index")
  x1_InvalidNumber : XK1 K mg (Str.ofString "InvalidNumber") (Str.ofString "given")
  xt : XTabOk K mg xtab
  xo : ∀ c ∈ xown, ∃ Ca, mg c = some (.ref Ca)
  xf : XFldOk K mg xfld
  xis : XIsOk K mg xist
abbrev s_is_integer : Stmt := top 19
theorem sc_is_integer : FnScope [(Str.ofString "value")] [(Str.ofString "value")] (defScope s_is_integer) := ⟨rfl, rfl, rfl, by decide +kernel, rfl, by decide +kernel, by decide +kernel⟩
theorem d_is_integer {P : Program} {w : World} {K : PySem.W.Frag} {mg : Str → Option Value} {base : Heap} (r : Raw K mg (Str.ofString "is_integer") s_is_integer) (T : Top w K mg) : Df P w K mg base 1 (Str.ofString "is_integer") s_is_integer [(Str.ofString "value")] (tf f_is_integer) :=
  have nd := sc_is_integer.nd
  df_q (b := b_is_integer) r sc_is_integer (fun _ _ _ _ _ _ us hl => match us, hl with | [_], _ => rfl) (fun _ _ => M.le_refl _) (fun f cdv A outer s H E W hG C =>
  (qss_one (qs_ret (qe_and (qe_callB call_isi cd_isi (by rfl) T.n_isinstance (by decide +kernel) (qa_cons (qe_var 0) (qa_cons (qe_bty (by rfl) T.n_int (by decide +kernel)) qa_nil))) (qe_one (qe_not (qe_callB call_isi cd_isi (by rfl) T.n_isinstance (by decide +kernel) (qa_cons (qe_var 0) (qa_cons (qe_bty (by rfl) T.n_bool (by decide +kernel)) qa_nil)))))))))
abbrev s_is_within : Stmt := top 20
theorem sc_is_within : FnScope [(Str.ofString "value"), (Str.ofString "least"), (Str.ofString "most")] [(Str.ofString "value"), (Str.ofString "least"), (Str.ofString "most")] (defScope s_is_within) := ⟨rfl, rfl, rfl, by decide +kernel, rfl, by decide +kernel, by decide +kernel⟩
theorem d_is_within {P : Program} {w : World} {K : PySem.W.Frag} {mg : Str → Option Value} {base : Heap} (r : Raw K mg (Str.ofString "is_within") s_is_within) (T : Top w K mg) (D_is_integer : Df P w K mg base 1 (Str.ofString "is_integer") s_is_integer [(Str.ofString "value")] (tf f_is_integer)) : Df P w K mg base 2 (Str.ofString "is_within") s_is_within [(Str.ofString "value"), (Str.ofString "least"), (Str.ofString "most")] (tf f_is_within) :=
  have nd := sc_is_within.nd
  df_q (b := b_is_within) r sc_is_within (fun _ _ _ _ _ _ us hl => match us, hl with | [_, _, _], _ => rfl) (fun _ _ => M.le_refl _) (fun f cdv A outer s H E W hG C =>
  (qss_one (qs_ret (qe_and (qe_callD C hG D_is_integer (by decide) (qa_cons (qe_var 0) qa_nil)) (qe_one (qe_chain op_le op_le od_le od_le (qe_var 1) (qe_var 0) (qe_var 2)))))))
abbrev s_check_integer : Stmt := top 22
theorem sc_check_integer : FnScope [(Str.ofString "value")] [(Str.ofString "value")] (defScope s_check_integer) := ⟨rfl, rfl, rfl, by decide +kernel, rfl, by decide +kernel, by decide +kernel⟩
theorem d_check_integer {P : Program} {w : World} {K : PySem.W.Frag} {mg : Str → Option Value} {base : Heap} (r : Raw K mg (Str.ofString "check_integer") s_check_integer) (T : Top w K mg) (D_is_integer : Df P w K mg base 1 (Str.ofString "is_integer") s_is_integer [(Str.ofString "value")] (tf f_is_integer)) : Df P w K mg base 3 (Str.ofString "check_integer") s_check_integer [(Str.ofString "value")] (tf f_check_integer) :=
  have nd := sc_check_integer.nd
  df_q (b := b_check_integer) r sc_check_integer (fun _ _ _ _ _ _ us hl => match us, hl with | [_], _ => rfl) (fun _ _ => M.le_refl _) (fun f cdv A outer s H E W hG C =>
  (qss_one (qs_if (qt_not (qt_val (qe_callD C hG D_is_integer (by decide) (qa_cons (qe_var 0) qa_nil)))) (qss_one (qs_raise1 C hG T.x1_InvalidNumber (by decide) (qe_var 0))) qss_nil)))
abbrev s_check_figures : Stmt := top 34
theorem sc_check_figures : FnScope [(Str.ofString "figures"), (Str.ofString "size"), (Str.ofString "met"), (Str.ofString "index")] [(Str.ofString "figures"), (Str.ofString "size")] (defScope s_check_figures) := ⟨rfl, rfl, rfl, by decide +kernel, rfl, by decide +kernel, by decide +kernel⟩
theorem d_check_figures {P : Program} {w : World} {K : PySem.W.Frag} {mg : Str → Option Value} {base : Heap} (r : Raw K mg (Str.ofString "check_figures") s_check_figures) (T : Top w K mg) (D_is_within : Df P w K mg base 2 (Str.ofString "is_within") s_is_within [(Str.ofString "value"), (Str.ofString "least"), (Str.ofString "most")] (tf f_is_within)) : Df P w K mg base 3 (Str.ofString "check_figures") s_check_figures [(Str.ofString "figures"), (Str.ofString "size")] (tf f_check_figures) :=
  have nd := sc_check_figures.nd
  df_q (b := b_check_figures) r sc_check_figures (fun _ _ _ _ _ _ us hl => match us, hl with | [_, _], _ => rfl) (fun _ _ => M.le_refl _) (fun f cdv A outer s H E W hG C =>
  (qss_cons (qs_if (qt_not (qt_val (qe_callB call_isi cd_isi (by rfl) T.n_isinstance (by decide +kernel) (qa_cons (qe_var 0) (qa_cons (qe_bty (by rfl) T.n_tuple (by decide +kernel)) qa_nil))))) (qss_one (qs_raise1 C hG T.x1_InvalidFigures (by decide) qe_non)) qss_nil)
  (qss_cons (qs_set nd qe_dic0)
  (qss_cons (qs_for [3] C.po (qi_range1 (qa_cons (qe_callB call_len cd_len (by rfl) T.n_len (by decide +kernel) (qa_cons (qe_var 0) qa_nil)) qa_nil) (by rfl) T.n_range) (tg_name nd) (qss_cons (qs_if (QW.pt (qw_or (qt_cmp (or_eqA C.u64) od_eq (qe_var 3) (qe_var 1) (nomark _)) (qw_or (qt_not (qt_val (qe_callD C hG D_is_within (by decide) (qa_cons (qe_ixV 0 (qe_var 3)) (qa_cons (qe_neg (qe_gint T.c_MOST_FIGURE)) (qa_cons (qe_gint T.c_MOST_FIGURE) qa_nil)))))) (qw_or1 (qt_dinV 2 C.u1 (qe_op op_modN od_mod (qe_ixV 0 (qe_var 3)) (qe_var 1))))))) (qss_one (qs_raise1 C hG T.x1_InvalidFigures (by decide) (qe_var 3))) qss_nil)
  (qss_cons (qs_if (QW.pt (qw_and (qt_cmp op_gt od_gt (qe_var 3) qe_int (nomark _)) (qw_and1 (qt_cmp op_le od_le (qe_ixV 0 (qe_var 3)) (qe_ixV 0 (qe_op op_sub od_sub (qe_var 3) qe_int)) (nomark _))))) (qss_one (qs_raise1 C hG T.x1_InvalidFigures (by decide) (qe_var 3))) qss_nil)
  (qss_one (qs_dput 2 C.u1 qe_bl (qe_op op_modN od_mod (qe_ixV 0 (qe_var 3)) (qe_var 1)))))))
  (qss_cons (qs_if (qt_cmp op_lt od_lt (qe_callB call_len cd_len (by rfl) T.n_len (by decide +kernel) (qa_cons (qe_var 0) qa_nil)) (qe_var 1) (nomark _)) (qss_one (qs_raise1 C hG T.x1_InvalidFigures (by decide) (qe_callB call_len cd_len (by rfl) T.n_len (by decide +kernel) (qa_cons (qe_var 0) qa_nil)))) qss_nil)
  (qss_one (qs_if (qt_cmp op_notIn_seq od_nin qe_int (qe_var 0) (by rfl)) (qss_one (qs_raise1 C hG T.x1_InvalidFigures (by decide) qe_non)) qss_nil)))))))
abbrev s_last_of : Stmt := top 37
theorem sc_last_of : FnScope [(Str.ofString "base"), (Str.ofString "number")] [(Str.ofString "base"), (Str.ofString "number")] (defScope s_last_of) := ⟨rfl, rfl, rfl, by decide +kernel, rfl, by decide +kernel, by decide +kernel⟩
theorem d_last_of {P : Program} {w : World} {K : PySem.W.Frag} {mg : Str → Option Value} {base : Heap} (r : Raw K mg (Str.ofString "last_of") s_last_of) (T : Top w K mg) : Df P w K mg base 1 (Str.ofString "last_of") s_last_of [(Str.ofString "base"), (Str.ofString "number")] (tf f_last_of) :=
  have nd := sc_last_of.nd
  df_q (b := b_last_of) r sc_last_of (fun _ _ _ _ _ _ us hl => match us, hl with | [_, _], _ => rfl) (fun _ _ => M.le_refl _) (fun f cdv A outer s H E W hG C =>
  (qss_one (qs_ret (qe_dgetX C.u1 (qe_fld (Str.ofString "Base") hG T.fx_Base_by_rest (qe_var 0)) (qe_op op_modN od_mod (qe_var 1) (qe_callB call_abs cd_abs (by rfl) T.n_abs (by decide +kernel) (qa_cons (qe_fld (Str.ofString "Base") hG T.fx_Base_power (qe_var 0)) qa_nil)))))))
abbrev s_rest_of : Stmt := top 38
theorem sc_rest_of : FnScope [(Str.ofString "base"), (Str.ofString "number")] [(Str.ofString "base"), (Str.ofString "number")] (defScope s_rest_of) := ⟨rfl, rfl, rfl, by decide +kernel, rfl, by decide +kernel, by decide +kernel⟩
theorem d_rest_of {P : Program} {w : World} {K : PySem.W.Frag} {mg : Str → Option Value} {base : Heap} (r : Raw K mg (Str.ofString "rest_of") s_rest_of) (T : Top w K mg) (D_last_of : Df P w K mg base 1 (Str.ofString "last_of") s_last_of [(Str.ofString "base"), (Str.ofString "number")] (tf f_last_of)) : Df P w K mg base 2 (Str.ofString "rest_of") s_rest_of [(Str.ofString "base"), (Str.ofString "number")] (tf f_rest_of) :=
  have nd := sc_rest_of.nd
  df_q (b := b_rest_of) r sc_rest_of (fun _ _ _ _ _ _ us hl => match us, hl with | [_, _], _ => rfl) (fun _ _ => M.le_refl _) (fun f cdv A outer s H E W hG C =>
  (qss_one (qs_ret (qe_op or_div od_div (qe_op op_sub od_sub (qe_var 1) (qe_callD C hG D_last_of (by decide) (qa_cons (qe_var 0) (qa_cons (qe_var 1) qa_nil)))) (qe_fld (Str.ofString "Base") hG T.fx_Base_power (qe_var 0))))))
abbrev s_written_by : Stmt := top 39
theorem sc_written_by : FnScope [(Str.ofString "base"), (Str.ofString "number"), (Str.ofString "found"), (Str.ofString "met")] [(Str.ofString "base"), (Str.ofString "number")] (defScope s_written_by) := ⟨rfl, rfl, rfl, by decide +kernel, rfl, by decide +kernel, by decide +kernel⟩
theorem d_written_by {P : Program} {w : World} {K : PySem.W.Frag} {mg : Str → Option Value} {base : Heap} (r : Raw K mg (Str.ofString "written_by") s_written_by) (T : Top w K mg) (D_last_of : Df P w K mg base 1 (Str.ofString "last_of") s_last_of [(Str.ofString "base"), (Str.ofString "number")] (tf f_last_of)) (D_rest_of : Df P w K mg base 2 (Str.ofString "rest_of") s_rest_of [(Str.ofString "base"), (Str.ofString "number")] (tf f_rest_of)) : Df P w K mg base 3 (Str.ofString "written_by") s_written_by [(Str.ofString "base"), (Str.ofString "number")] (tf f_written_by) :=
  have nd := sc_written_by.nd
  df_q (b := b_written_by) r sc_written_by (fun _ _ _ _ _ _ us hl => match us, hl with | [_, _], _ => rfl) (fun _ _ => M.le_refl _) (fun f cdv A outer s H E W hG C =>
  (qss_cons (qs_par nd (qe_lst qa_nil) qe_dic0)
  (qss_cons (qs_while [] C.po (qt_cmp (or_neA C.u64) od_ne (qe_var 1) qe_int (nomark _)) (qss_cons (qs_if (qt_dinV 3 C.u1 (qe_var 1)) (qss_one (qs_ret qe_non)) qss_nil)
  (qss_cons (qs_dput 3 C.u1 qe_bl (qe_var 1))
  (qss_cons (qs_app 2 (qe_callD C hG D_last_of (by decide) (qa_cons (qe_var 0) (qa_cons (qe_var 1) qa_nil))))
  (qss_one (qs_set nd (qe_callD C hG D_rest_of (by decide) (qa_cons (qe_var 0) (qa_cons (qe_var 1) qa_nil)))))))))
  (qss_one (qs_ret (qe_callTy call_tuple_of cd_tuple (by rfl) T.n_tuple (by decide +kernel) (qa_cons (qe_rev (qe_var 2)) qa_nil)))))))
abbrev s_round_from : Stmt := top 40
theorem sc_round_from : FnScope [(Str.ofString "base"), (Str.ofString "number"), (Str.ofString "met"), (Str.ofString "path")] [(Str.ofString "base"), (Str.ofString "number"), (Str.ofString "met")] (defScope s_round_from) := ⟨rfl, rfl, rfl, by decide +kernel, rfl, by decide +kernel, by decide +kernel⟩
theorem d_round_from {P : Program} {w : World} {K : PySem.W.Frag} {mg : Str → Option Value} {base : Heap} (r : Raw K mg (Str.ofString "round_from") s_round_from) (T : Top w K mg) (D_rest_of : Df P w K mg base 2 (Str.ofString "rest_of") s_rest_of [(Str.ofString "base"), (Str.ofString "number")] (tf f_rest_of)) : Df P w K mg base 3 (Str.ofString "round_from") s_round_from [(Str.ofString "base"), (Str.ofString "number"), (Str.ofString "met")] (tf f_round_from) :=
  have nd := sc_round_from.nd
  df_q (b := b_round_from) r sc_round_from (fun _ _ _ _ _ _ us hl => match us, hl with | [_, _, _], _ => rfl) (fun _ _ => M.le_refl _) (fun f cdv A outer s H E W hG C =>
  (qss_cons (qs_set nd qe_dic0)
  (qss_cons (qs_while [] C.po (QW.pt (qw_and (qt_cmp (or_neA C.u64) od_ne (qe_var 1) qe_int (nomark _)) (qw_and1 (qt_dninC 2 hG T.n_dict C.u1 (qe_var 1))))) (qss_cons (qs_dputC 2 hG T.n_dict C.u1 qe_bl (qe_var 1))
  (qss_cons (qs_dput 3 C.u1 (qe_lenDV 3 (by rfl) T.n_len) (qe_var 1))
  (qss_one (qs_set nd (qe_callD C hG D_rest_of (by decide) (qa_cons (qe_var 0) (qa_cons (qe_var 1) qa_nil))))))))
  (qss_cons (qs_if (qt_dninV 3 C.u1 (qe_var 1)) (qss_one (qs_ret qe_non)) qss_nil)
  (qss_one (qs_ret (qe_sl (qe_callTy (cr_listD (by rfl)) cd_listD (by rfl) T.n_list (by decide +kernel) (qa_cons (qe_var 3) qa_nil)) (qo_some (qe_dget 3 C.u1 (qe_var 1))) qo_none)))))))
abbrev s_begun_least : Stmt := top 41
theorem sc_begun_least : FnScope [(Str.ofString "numbers"), (Str.ofString "at")] [(Str.ofString "numbers")] (defScope s_begun_least) := ⟨rfl, rfl, rfl, by decide +kernel, rfl, by decide +kernel, by decide +kernel⟩
theorem d_begun_least {P : Program} {w : World} {K : PySem.W.Frag} {mg : Str → Option Value} {base : Heap} (r : Raw K mg (Str.ofString "begun_least") s_begun_least) (T : Top w K mg) : Df P w K mg base 1 (Str.ofString "begun_least") s_begun_least [(Str.ofString "numbers")] (tf f_begun_least) :=
  have nd := sc_begun_least.nd
  df_q (b := b_begun_least) r sc_begun_least (fun _ _ _ _ _ _ us hl => match us, hl with | [_], _ => rfl) (fun _ _ => M.le_refl _) (fun f cdv A outer s H E W hG C =>
  (qss_cons (qs_set nd (qe_indexV 0 (qe_callB (cr_min rfl) cd_minL (by rfl) T.n_min (by decide +kernel) (qa_cons (qe_var 0) qa_nil))))
  (qss_one (qs_ret (qe_callTy call_tuple_of cd_tuple (by rfl) T.n_tuple (by decide +kernel) (qa_cons (qe_op or_add od_add (qe_sl (qe_var 0) (qo_some (qe_var 1)) qo_none) (qe_sl (qe_var 0) qo_none (qo_some (qe_var 1)))) qa_nil))))))
abbrev s_rounds_of : Stmt := top 42
theorem sc_rounds_of : FnScope [(Str.ofString "base"), (Str.ofString "edge"), (Str.ofString "found"), (Str.ofString "met"), (Str.ofString "number"), (Str.ofString "numbers"), (Str.ofString "figure")] [(Str.ofString "base")] (defScope s_rounds_of) := ⟨rfl, rfl, rfl, by decide +kernel, rfl, by decide +kernel, by decide +kernel⟩
theorem d_rounds_of {P : Program} {w : World} {K : PySem.W.Frag} {mg : Str → Option Value} {base : Heap} (r : Raw K mg (Str.ofString "rounds_of") s_rounds_of) (T : Top w K mg) (D_begun_least : Df P w K mg base 1 (Str.ofString "begun_least") s_begun_least [(Str.ofString "numbers")] (tf f_begun_least)) (D_round_from : Df P w K mg base 3 (Str.ofString "round_from") s_round_from [(Str.ofString "base"), (Str.ofString "number"), (Str.ofString "met")] (tf f_round_from)) : Df P w K mg base 4 (Str.ofString "rounds_of") s_rounds_of [(Str.ofString "base")] (tf f_rounds_of) :=
  have nd := sc_rounds_of.nd
  df_q (b := b_rounds_of) r sc_rounds_of (fun _ _ _ _ _ _ us hl => match us, hl with | [_], _ => rfl) (fun _ _ => M.le_refl _) (fun f cdv A outer s H E W hG C =>
  (qss_cons (qs_set nd (qe_op or_div od_div (qe_callB (cr_max rfl) cd_maxL (by rfl) T.n_max (by decide +kernel) (qa_cons (qe_lc (own := [((Str.ofString "figure"), 6)]) nd (qi_seq (qe_fld (Str.ofString "Base") hG T.fx_Base_signs (qe_var 0))) (blkOk_by (by kernel_rfl)) (fun _ _ _ _ _ => (tg_name nd)) (tin_name (by decide)) (fun _ _ _ _ _ => qts_nil) (fun _ _ _ _ _ => (qe_callB call_abs cd_abs (by rfl) T.n_abs (by decide +kernel) (qa_cons (qe_var 6) qa_nil)))) qa_nil)) (qe_op op_sub od_sub (qe_callB call_abs cd_abs (by rfl) T.n_abs (by decide +kernel) (qa_cons (qe_fld (Str.ofString "Base") hG T.fx_Base_power (qe_var 0)) qa_nil)) qe_int)))
  (qss_cons (qs_par nd (qe_lst qa_nil) qe_dic0)
  (qss_cons (qs_for [4, 5] C.po (qi_range2 (qa_cons (qe_neg (qe_var 1)) (qa_cons (qe_op or_add od_add (qe_var 1) qe_int) qa_nil)) (by rfl) T.n_range) (tg_name nd) (qss_cons (qs_set nd (qe_callO 3 C hG T.n_dict D_round_from (by decide) (qe_var 0) (qe_var 4)))
  (qss_one (qs_if (qt_notN (qe_var 5)) (qss_one (qs_app 2 (qe_callD C hG D_begun_least (by decide) (qa_cons (qe_var 5) qa_nil)))) qss_nil))))
  (qss_one (qs_ret (qe_callTy call_tuple_of cd_tuple (by rfl) T.n_tuple (by decide +kernel) (qa_cons (qe_callB cr_sortedA cd_sortedA (by rfl) T.n_sorted (by decide +kernel) (qa_cons (qe_var 2) qa_nil)) qa_nil))))))))
abbrev s_Base_init : Stmt := clsB (top 35) 0
theorem sc_Base_init : FnScope [(Str.ofString "self"), (Str.ofString "number"), (Str.ofString "figures"), (Str.ofString "figure")] [(Str.ofString "self"), (Str.ofString "number"), (Str.ofString "figures")] (defScope s_Base_init) := ⟨rfl, rfl, rfl, by decide +kernel, rfl, by decide +kernel, by decide +kernel⟩
theorem d_Base_init {P : Program} {w : World} {K : PySem.W.Frag} {mg : Str → Option Value} {base : Heap} (r : RawI K mg (Str.ofString "Base") (Str.ofString "Base.__init__") s_Base_init) (T : Top w K mg) (D_check_figures : Df P w K mg base 3 (Str.ofString "check_figures") s_check_figures [(Str.ofString "figures"), (Str.ofString "size")] (tf f_check_figures)) (D_is_within : Df P w K mg base 2 (Str.ofString "is_within") s_is_within [(Str.ofString "value"), (Str.ofString "least"), (Str.ofString "most")] (tf f_is_within)) : DfI P w K mg base 4 (Str.ofString "Base") (Str.ofString "Base.__init__") s_Base_init [(Str.ofString "self"), (Str.ofString "number"), (Str.ofString "figures")] (tf f_Base_init) :=
  have nd := sc_Base_init.nd
  dfi_q (b := b_Base_init) r sc_Base_init (fun _ _ _ _ _ _ us hl => match us, hl with | [_, _, _], _ => rfl) (fun _ _ => M.le_refl _) (fun f cdv A outer s H H0 E W hG C =>
  (qss_cons (qs_if (QW.pt (qw_and (qt_not (qt_val (qe_callD C hG D_is_within (by decide) (qa_cons (qe_var 1) (qa_cons qe_int (qa_cons (qe_gint T.c_MOST_BASE) qa_nil)))))) (qw_and1 (qt_not (qt_val (qe_callD C hG D_is_within (by decide) (qa_cons (qe_var 1) (qa_cons (qe_neg (qe_gint T.c_MOST_BASE)) (qa_cons (qe_neg qe_int) qa_nil))))))))) (qss_one (qs_raise1 C hG T.x1_InvalidBase (by decide) (qe_var 1))) qss_nil)
  (qss_cons (qs_expr (qe_callD C hG D_check_figures (by decide) (qa_cons (qe_var 2) (qa_cons (qe_callB call_abs cd_abs (by rfl) T.n_abs (by decide +kernel) (qa_cons (qe_var 1) qa_nil)) qa_nil))))
  (qss_cons (qs_stF (Str.ofString "Base") 0 hG T.fx_Base_power (qe_var 1))
  (qss_cons (qs_stF (Str.ofString "Base") 0 hG T.fx_Base_signs (qe_var 2))
  (qss_one (qs_stF (Str.ofString "Base") 0 hG T.fx_Base_by_rest (qe_dc (own := [((Str.ofString "figure"), 3)]) nd (qi_seq (qe_var 2)) (blkOk_by (by kernel_rfl)) (fun _ _ _ _ _ => (tg_name nd)) (tin_name (by decide)) (fun _ _ _ _ _ => qts_nil) (fun _ _ _ _ _ => (qe_op op_modN od_mod (qe_var 3) (qe_callB call_abs cd_abs (by rfl) T.n_abs (by decide +kernel) (qa_cons (qe_var 1) qa_nil)))) (fun _ _ _ _ _ => (qe_var 3))))))))))
abbrev s_base_told : Stmt := top 63
theorem sc_base_told : FnScope [(Str.ofString "number"), (Str.ofString "figures")] [(Str.ofString "number"), (Str.ofString "figures")] (defScope s_base_told) := ⟨rfl, rfl, rfl, by decide +kernel, rfl, by decide +kernel, by decide +kernel⟩
theorem d_base_told {P : Program} {w : World} {K : PySem.W.Frag} {mg : Str → Option Value} {base : Heap} (r : Raw K mg (Str.ofString "base_told") s_base_told) (T : Top w K mg) (D_Base_init : DfI P w K mg base 4 (Str.ofString "Base") (Str.ofString "Base.__init__") s_Base_init [(Str.ofString "self"), (Str.ofString "number"), (Str.ofString "figures")] (tf f_Base_init)) : Df P w K mg base 6 (Str.ofString "base_told") s_base_told [(Str.ofString "number"), (Str.ofString "figures")] (tf f_base_told) :=
  have nd := sc_base_told.nd
  df_q (b := b_base_told) r sc_base_told (fun _ _ _ _ _ _ us hl => match us, hl with | [_, _], _ => rfl) (fun _ _ => M.le_refl _) (fun f cdv A outer s H E W hG C =>
  (qss_one (qs_try C hG T.xt T.xo (fun T' pn xe C => (qss_one (qs_ret (qe_make false C hG D_Base_init (by decide) (qa_cons (qe_var 0) (qa_cons (qe_var 1) qa_nil)))))) (.cons (test_2 (nv_own T.nv_InvalidBase) (nv_own T.nv_InvalidFigures)) trivial (fun a pn C => (qss_one (qs_ret qe_non))) .nil) nd)))
abbrev s_Base_number : Stmt := clsB (top 35) 1
theorem sc_Base_number : FnScope [(Str.ofString "self")] [(Str.ofString "self")] (defScope s_Base_number) := ⟨rfl, rfl, rfl, by decide +kernel, rfl, by decide +kernel, by decide +kernel⟩
theorem d_Base_number {P : Program} {w : World} {K : PySem.W.Frag} {mg : Str → Option Value} {base : Heap} (r : RawP K mg (Str.ofString "Base") (Str.ofString "number") (Str.ofString "Base.number") s_Base_number) (T : Top w K mg) : DfP P w K mg base 1 (Str.ofString "Base") (Str.ofString "number") [(Str.ofString "self")] (tf f_Base_number) :=
  have nd := sc_Base_number.nd
  dfp_q (b := b_Base_number) r sc_Base_number (fun _ _ _ _ _ _ us hl => match us, hl with | [_], _ => rfl) (fun _ _ => M.le_refl _) (fun f cdv A outer s H H0 E W hG C =>
  (qss_one (qs_ret (qe_fld (Str.ofString "Base") hG T.fx_Base_power (qe_var 0)))))
abbrev s_reads_as : Stmt := top 64
theorem sc_reads_as : FnScope [(Str.ofString "base"), (Str.ofString "value"), (Str.ofString "found"), (Str.ofString "figure")] [(Str.ofString "base"), (Str.ofString "value")] (defScope s_reads_as) := ⟨rfl, rfl, rfl, by decide +kernel, rfl, by decide +kernel, by decide +kernel⟩
theorem d_reads_as {P : Program} {w : World} {K : PySem.W.Frag} {mg : Str → Option Value} {base : Heap} (r : Raw K mg (Str.ofString "reads_as") s_reads_as) (T : Top w K mg) (D_Base_number : DfP P w K mg base 1 (Str.ofString "Base") (Str.ofString "number") [(Str.ofString "self")] (tf f_Base_number)) : Df P w K mg base 3 (Str.ofString "reads_as") s_reads_as [(Str.ofString "base"), (Str.ofString "value")] (tf f_reads_as) :=
  have nd := sc_reads_as.nd
  df_q (b := b_reads_as) r sc_reads_as (fun _ _ _ _ _ _ us hl => match us, hl with | [_, _], _ => rfl) (fun _ _ => M.le_refl _) (fun f cdv A outer s H E W hG C =>
  (qss_cons (qs_set nd qe_int)
  (qss_cons (qs_for [3] C.po (qi_seq (qe_var 1)) (tg_name nd) (qss_one (qs_set nd (qe_op or_add od_add (qe_op or_mul od_mul (qe_var 2) (qe_prop C hG D_Base_number rfl (by decide) (qe_var 0))) (qe_var 3)))))
  (qss_one (qs_ret (qe_var 2))))))
abbrev s_Base_figures : Stmt := clsB (top 35) 2
theorem sc_Base_figures : FnScope [(Str.ofString "self")] [(Str.ofString "self")] (defScope s_Base_figures) := ⟨rfl, rfl, rfl, by decide +kernel, rfl, by decide +kernel, by decide +kernel⟩
theorem d_Base_figures {P : Program} {w : World} {K : PySem.W.Frag} {mg : Str → Option Value} {base : Heap} (r : RawP K mg (Str.ofString "Base") (Str.ofString "figures") (Str.ofString "Base.figures") s_Base_figures) (T : Top w K mg) : DfP P w K mg base 1 (Str.ofString "Base") (Str.ofString "figures") [(Str.ofString "self")] (tf f_Base_figures) :=
  have nd := sc_Base_figures.nd
  dfp_q (b := b_Base_figures) r sc_Base_figures (fun _ _ _ _ _ _ us hl => match us, hl with | [_], _ => rfl) (fun _ _ => M.le_refl _) (fun f cdv A outer s H H0 E W hG C =>
  (qss_one (qs_ret (qe_fld (Str.ofString "Base") hG T.fx_Base_signs (qe_var 0)))))
abbrev s_is_row_of : Stmt := top 65
theorem sc_is_row_of : FnScope [(Str.ofString "base"), (Str.ofString "value"), (Str.ofString "figure")] [(Str.ofString "base"), (Str.ofString "value")] (defScope s_is_row_of) := ⟨rfl, rfl, rfl, by decide +kernel, rfl, by decide +kernel, by decide +kernel⟩
theorem d_is_row_of {P : Program} {w : World} {K : PySem.W.Frag} {mg : Str → Option Value} {base : Heap} (r : Raw K mg (Str.ofString "is_row_of") s_is_row_of) (T : Top w K mg) (D_Base_figures : DfP P w K mg base 1 (Str.ofString "Base") (Str.ofString "figures") [(Str.ofString "self")] (tf f_Base_figures)) (D_is_integer : Df P w K mg base 1 (Str.ofString "is_integer") s_is_integer [(Str.ofString "value")] (tf f_is_integer)) : Df P w K mg base 3 (Str.ofString "is_row_of") s_is_row_of [(Str.ofString "base"), (Str.ofString "value")] (tf f_is_row_of) :=
  have nd := sc_is_row_of.nd
  df_q (b := b_is_row_of) r sc_is_row_of (fun _ _ _ _ _ _ us hl => match us, hl with | [_, _], _ => rfl) (fun _ _ => M.le_refl _) (fun f cdv A outer s H E W hG C =>
  (qss_cons (qs_if (QW.pt (qw_or (qt_not (qt_val (qe_callB call_isi cd_isi (by rfl) T.n_isinstance (by decide +kernel) (qa_cons (qe_var 1) (qa_cons (qe_bty (by rfl) T.n_tuple (by decide +kernel)) qa_nil))))) (qw_or1 (qt_not (qt_val (qe_callB (cr_all rfl) cd_all (by rfl) T.n_all (by decide +kernel) (qa_cons (qe_lc (own := [((Str.ofString "figure"), 2)]) nd (qi_seq (qe_var 1)) (blkOk_by (by kernel_rfl)) (fun _ _ _ _ _ => (tg_name nd)) (tin_name (by decide)) (fun _ _ _ _ _ => qts_nil) (fun _ _ _ _ _ => (qe_and (qe_callD (C.blk _ _ _ _ _ PassesOwn.never) hG D_is_integer (by decide) (qa_cons (qe_var 2) qa_nil)) (qe_one (qe_cmp op_in_seq od_in (qe_var 2) (qe_prop (C.blk _ _ _ _ _ PassesOwn.never) hG D_Base_figures rfl (by decide) (qe_var 0)) (by rfl)))))) qa_nil))))))) (qss_one (qs_ret qe_bl)) qss_nil)
  (qss_one (qs_ret (qe_or (qe_cmp (or_eqA C.u64) od_eq (qe_var 1) (qe_tup qa_nil) (nomark _)) (qe_one (qe_cmp (or_neA C.u64) od_ne (qe_ixV 1 qe_int) qe_int (nomark _))))))))
abbrev s_is_empty : Stmt := top 69
theorem sc_is_empty : FnScope [(Str.ofString "value")] [(Str.ofString "value")] (defScope s_is_empty) := ⟨rfl, rfl, rfl, by decide +kernel, rfl, by decide +kernel, by decide +kernel⟩
theorem d_is_empty {P : Program} {w : World} {K : PySem.W.Frag} {mg : Str → Option Value} {base : Heap} (r : Raw K mg (Str.ofString "is_empty") s_is_empty) (T : Top w K mg) : Df P w K mg base 1 (Str.ofString "is_empty") s_is_empty [(Str.ofString "value")] (tf f_is_empty) :=
  have nd := sc_is_empty.nd
  df_q (b := b_is_empty) r sc_is_empty (fun _ _ _ _ _ _ us hl => match us, hl with | [_], _ => rfl) (fun _ _ => M.le_refl _) (fun f cdv A outer s H E W hG C =>
  (qss_one (qs_ret (qe_and (qe_callB call_isi cd_isi (by rfl) T.n_isinstance (by decide +kernel) (qa_cons (qe_var 0) (qa_cons (qe_bty (by rfl) T.n_tuple (by decide +kernel)) qa_nil))) (qe_one (qe_cmp (or_eqA C.u64) od_eq (qe_callB call_len cd_len (by rfl) T.n_len (by decide +kernel) (qa_cons (qe_var 0) qa_nil)) qe_int (nomark _)))))))
abbrev s_Base_writes_all : Stmt := clsB (top 35) 10
theorem sc_Base_writes_all : FnScope [(Str.ofString "self")] [(Str.ofString "self")] (defScope s_Base_writes_all) := ⟨rfl, rfl, rfl, by decide +kernel, rfl, by decide +kernel, by decide +kernel⟩
theorem d_Base_writes_all {P : Program} {w : World} {K : PySem.W.Frag} {mg : Str → Option Value} {base : Heap} (r : RawM K mg (Str.ofString "Base") (Str.ofString "writes_all") (Str.ofString "Base.writes_all") s_Base_writes_all) (T : Top w K mg) (D_rounds_of : Df P w K mg base 4 (Str.ofString "rounds_of") s_rounds_of [(Str.ofString "base")] (tf f_rounds_of)) : DfM P w K mg base 5 (Str.ofString "Base") (Str.ofString "writes_all") (Str.ofString "Base.writes_all") s_Base_writes_all [(Str.ofString "self")] (tf f_Base_writes_all) :=
  have nd := sc_Base_writes_all.nd
  dfm_q (b := b_Base_writes_all) r sc_Base_writes_all (fun _ _ _ _ _ _ us hl => match us, hl with | [_], _ => rfl) (fun _ _ => M.le_refl _) (fun f cdv A outer s H H0 E W hG C =>
  (qss_one (qs_ret (qe_cmp (or_eqA C.u64) od_eq (qe_callD C hG D_rounds_of (by decide) (qa_cons (qe_var 0) qa_nil)) (qe_tup qa_nil) (nomark _)))))
abbrev s_accepts_base : Stmt := top 72
theorem sc_accepts_base : FnScope [(Str.ofString "claim"), (Str.ofString "certificate"), (Str.ofString "base")] [(Str.ofString "claim"), (Str.ofString "certificate")] (defScope s_accepts_base) := ⟨rfl, rfl, rfl, by decide +kernel, rfl, by decide +kernel, by decide +kernel⟩
theorem d_accepts_base {P : Program} {w : World} {K : PySem.W.Frag} {mg : Str → Option Value} {base : Heap} (r : Raw K mg (Str.ofString "accepts_base") s_accepts_base) (T : Top w K mg) (D_Base_writes_all : DfM P w K mg base 5 (Str.ofString "Base") (Str.ofString "writes_all") (Str.ofString "Base.writes_all") s_Base_writes_all [(Str.ofString "self")] (tf f_Base_writes_all)) (D_base_told : Df P w K mg base 6 (Str.ofString "base_told") s_base_told [(Str.ofString "number"), (Str.ofString "figures")] (tf f_base_told)) (D_is_empty : Df P w K mg base 1 (Str.ofString "is_empty") s_is_empty [(Str.ofString "value")] (tf f_is_empty)) (D_is_integer : Df P w K mg base 1 (Str.ofString "is_integer") s_is_integer [(Str.ofString "value")] (tf f_is_integer)) (D_is_row_of : Df P w K mg base 3 (Str.ofString "is_row_of") s_is_row_of [(Str.ofString "base"), (Str.ofString "value")] (tf f_is_row_of)) (D_reads_as : Df P w K mg base 3 (Str.ofString "reads_as") s_reads_as [(Str.ofString "base"), (Str.ofString "value")] (tf f_reads_as)) : Df P w K mg base 7 (Str.ofString "accepts_base") s_accepts_base [(Str.ofString "claim"), (Str.ofString "certificate")] (tf f_accepts_base) :=
  have nd := sc_accepts_base.nd
  df_q (b := b_accepts_base) r sc_accepts_base (fun _ _ _ _ _ _ us hl => match us, hl with | [_, _], _ => rfl) (fun _ _ => M.le_refl _) (fun f cdv A outer s H E W hG C =>
  (qss_cons (qs_set nd (qe_callD C hG D_base_told (by decide) (qa_cons (qe_ixV 0 qe_int) (qa_cons (qe_ixV 0 qe_int) qa_nil))))
  (qss_cons (qs_if (qt_isN (qe_var 2)) (qss_one (qs_ret qe_bl)) qss_nil)
  (qss_cons (qs_if (qt_cmp (or_eqA C.u64) od_eq (qe_ixV 0 qe_int) qe_str (nomark _)) (qss_one (qs_ret qe_badE)) qss_nil)
  (qss_cons (qs_if (qt_cmp (or_eqA C.u64) od_eq (qe_ixV 0 qe_int) qe_str (nomark _)) (qss_one (qs_ret (qe_and (qe_callD C hG D_is_empty (by decide) (qa_cons (qe_var 1) qa_nil)) (qe_one (qe_meth0 C hG D_Base_writes_all (by decide) (qe_var 2)))))) qss_nil)
  (qss_one (qs_ret (qe_and (qe_callD C hG D_is_integer (by decide) (qa_cons (qe_ixV 0 qe_int) qa_nil)) (qe_and (qe_callD C hG D_is_row_of (by decide) (qa_cons (qe_var 2) (qa_cons (qe_var 1) qa_nil))) (qe_one (qe_cmp (or_eqA C.u64) od_eq (qe_callD C hG D_reads_as (by decide) (qa_cons (qe_var 2) (qa_cons (qe_var 1) qa_nil))) (qe_ixV 0 qe_int) (nomark _))))))))))))
abbrev s_accepts : Stmt := top 73
theorem sc_accepts : FnScope [(Str.ofString "claim"), (Str.ofString "certificate")] [(Str.ofString "claim"), (Str.ofString "certificate")] (defScope s_accepts) := ⟨rfl, rfl, rfl, by decide +kernel, rfl, by decide +kernel, by decide +kernel⟩
theorem d_accepts {P : Program} {w : World} {K : PySem.W.Frag} {mg : Str → Option Value} {base : Heap} (r : Raw K mg (Str.ofString "accepts") s_accepts) (T : Top w K mg) (D_accepts_base : Df P w K mg base 7 (Str.ofString "accepts_base") s_accepts_base [(Str.ofString "claim"), (Str.ofString "certificate")] (tf f_accepts_base)) : Df P w K mg base 8 (Str.ofString "accepts") s_accepts [(Str.ofString "claim"), (Str.ofString "certificate")] (tf f_accepts) :=
  have nd := sc_accepts.nd
  df_q (b := b_accepts) r sc_accepts (fun _ _ _ _ _ _ us hl => match us, hl with | [_, _], _ => rfl) (fun _ _ => M.le_refl _) (fun f cdv A outer s H E W hG C =>
  (qss_cons (qs_if (QW.pt (qw_or (qt_not (qt_val (qe_callB call_isi cd_isi (by rfl) T.n_isinstance (by decide +kernel) (qa_cons (qe_var 0) (qa_cons (qe_bty (by rfl) T.n_tuple (by decide +kernel)) qa_nil))))) (qw_or (qt_cmp (or_eqA C.u64) od_eq (qe_var 0) (qe_tup qa_nil) (nomark _)) (qw_or1 (qt_not (qt_val (qe_callB call_isi cd_isi (by rfl) T.n_isinstance (by decide +kernel) (qa_cons (qe_ixV 0 qe_int) (qa_cons (qe_bty (by rfl) T.n_str (by decide +kernel)) qa_nil))))))))) (qss_one (qs_ret qe_bl)) qss_nil)
  (qss_cons (qs_if (QW.pt (qw_or (qt_tabNin T.kd_LENGTHS (qe_ixV 0 qe_int)) (qw_or1 (qt_cmp (or_neA C.u64) od_ne (qe_callB call_len cd_len (by rfl) T.n_len (by decide +kernel) (qa_cons (qe_var 0) qa_nil)) (qe_tabIx T.kd_LENGTHS (qe_ixV 0 qe_int)) (nomark _))))) (qss_one (qs_ret qe_bl)) qss_nil)
  (qss_cons (qs_if (qt_cmp op_in_seq od_in (qe_ixV 0 qe_int) (qe_tup (qa_cons qe_str (qa_cons qe_str (qa_cons qe_str qa_nil)))) (by rfl)) (qss_one (qs_ret qe_badE)) qss_nil)
  (qss_cons (qs_if (qt_cmp op_in_seq od_in (qe_ixV 0 qe_int) (qe_tup (qa_cons qe_str (qa_cons qe_str qa_nil))) (by rfl)) (qss_one (qs_ret qe_badE)) qss_nil)
  (qss_one (qs_ret (qe_callD C hG D_accepts_base (by decide) (qa_cons (qe_var 0) (qa_cons (qe_var 1) qa_nil))))))))))
abbrev s_law_well : Stmt := top 75
theorem sc_law_well : FnScope [(Str.ofString "_law_cells"), (Str.ofString "_law_turn"), (Str.ofString "_law_cell"), (Str.ofString "_law_stirred"), (Str.ofString "_law_each")] [(Str.ofString "_law_cells"), (Str.ofString "_law_turn")] (defScope s_law_well) := ⟨rfl, rfl, rfl, by decide +kernel, rfl, by decide +kernel, by decide +kernel⟩
theorem d_law_well {P : Program} {w : World} {K : PySem.W.Frag} {mg : Str → Option Value} {base : Heap} (r : Raw K mg (Str.ofString "_law_well") s_law_well) (T : Top w K mg) : Df P w K mg base 1 (Str.ofString "_law_well") s_law_well [(Str.ofString "_law_cells"), (Str.ofString "_law_turn")] (tf f_law_well) :=
  have nd := sc_law_well.nd
  df_q (b := b_law_well) r sc_law_well (fun _ _ _ _ _ _ us hl => match us, hl with | [_, _], _ => rfl) (fun _ _ => M.le_refl _) (fun f cdv A outer s H E W hG C =>
  (qss_cons (qs_set nd (qe_if (qt_cmp op_lt od_lt (qe_var 1) (qe_callB call_len cd_len (by rfl) T.n_len (by decide +kernel) (qa_cons (qe_var 0) qa_nil)) (nomark _)) (qe_ixV 0 (qe_var 1)) (qe_op or_add od_add (qe_op or_mul od_mul qe_int (qe_var 1)) qe_int)))
  (qss_cons (qs_set nd (qe_op or_add od_add qe_int (qe_op or_mul od_mul qe_int (qe_var 1))))
  (qss_cons (qs_for [4] C.po (qi_seq (qe_op or_add od_add (qe_sl (qe_var 0) qo_none (qo_some qe_int)) (qe_lst (qa_cons (qe_var 2) qa_nil)))) (tg_name nd) (qss_one (qs_set nd (qe_op op_modN od_mod (qe_callTy call_int1 cd_int (by rfl) T.n_int (by decide +kernel) (qa_cons (qe_op or_add od_add (qe_op or_add od_add (qe_op or_mul od_mul (qe_var 3) qe_int) (qe_op or_mul od_mul (qe_var 4) qe_int)) qe_int) qa_nil)) qe_int))))
  (qss_one (qs_ret (qe_lst (qa_cons (qe_if (QW.pt (qw_or (qt_cmp op_lt od_lt (qe_var 2) qe_int (nomark _)) (qw_or1 (qt_cmp op_ge od_ge (qe_var 2) (qe_op op_pow od_pow qe_int qe_int) (nomark _))))) (qe_callB call_abs cd_abs (by rfl) T.n_abs (by decide +kernel) (qa_cons (qe_var 2) qa_nil)) qe_int) (qa_cons (qe_var 3) (qa_cons qe_int qa_nil))))))))))
abbrev s_law_dip : Stmt := top 76
theorem sc_law_dip : FnScope [(Str.ofString "_law_well_here"), (Str.ofString "_law_sides"), (Str.ofString "_law_digit"), (Str.ofString "_law_by")] [(Str.ofString "_law_well_here"), (Str.ofString "_law_sides")] (defScope s_law_dip) := ⟨rfl, rfl, rfl, by decide +kernel, rfl, by decide +kernel, by decide +kernel⟩
theorem d_law_dip {P : Program} {w : World} {K : PySem.W.Frag} {mg : Str → Option Value} {base : Heap} (r : Raw K mg (Str.ofString "_law_dip") s_law_dip) (T : Top w K mg) : Df P w K mg base 1 (Str.ofString "_law_dip") s_law_dip [(Str.ofString "_law_well_here"), (Str.ofString "_law_sides")] (tf p_law_dip) :=
  have nd := sc_law_dip.nd
  df_q (b := b_law_dip) r sc_law_dip (fun _ _ _ _ _ _ us hl => match us, hl with | [_, _], _ => rfl) o_law_dip (fun f cdv A outer s H E W hG C =>
  (qss_cons (qs_setIx 0 (qe_op or_add od_add (qe_ixV 0 qe_int) qe_int) qe_int)
  (qss_cons (qs_if (qt_cmp op_gt od_gt (qe_ixV 0 qe_int) qe_int (nomark _)) (qss_cons (qs_asgJ 0 2 (qe_callB call_divmodX cd_divmod (by rfl) T.n_divmod (by decide +kernel) (qa_cons (qe_ixV 0 qe_int) (qa_cons (qe_var 1) qa_nil))) pe_int nd)
  (qss_one (qs_ret (qe_var 2)))) qss_nil)
  (qss_cons (qs_set nd (qe_op or_add od_add qe_int (qe_op or_mul od_mul qe_int (qe_ixV 0 qe_int))))
  (qss_cons (qs_setIx 0 (qe_op op_modN od_mod (qe_callTy call_int1 cd_int (by rfl) T.n_int (by decide +kernel) (qa_cons (qe_op or_add od_add (qe_op or_add od_add (qe_op or_mul od_mul (qe_ixV 0 qe_int) (qe_var 3)) (qe_op or_mul od_mul qe_int (qe_ixV 0 qe_int))) qe_int) qa_nil)) qe_int) qe_int)
  (qss_one (qs_ret (qe_op op_modN od_mod (qe_callTy call_int1 cd_int (by rfl) T.n_int (by decide +kernel) (qa_cons (qe_op or_div od_div (qe_ixV 0 qe_int) qe_int) qa_nil)) (qe_var 1)))))))))
abbrev s_law_one_of : Stmt := top 77
theorem sc_law_one_of : FnScope [(Str.ofString "_law_well_here"), (Str.ofString "_law_some")] [(Str.ofString "_law_well_here"), (Str.ofString "_law_some")] (defScope s_law_one_of) := ⟨rfl, rfl, rfl, by decide +kernel, rfl, by decide +kernel, by decide +kernel⟩
theorem d_law_one_of {P : Program} {w : World} {K : PySem.W.Frag} {mg : Str → Option Value} {base : Heap} (r : Raw K mg (Str.ofString "_law_one_of") s_law_one_of) (T : Top w K mg) (D_law_dip : Df P w K mg base 1 (Str.ofString "_law_dip") s_law_dip [(Str.ofString "_law_well_here"), (Str.ofString "_law_sides")] (tf p_law_dip)) : Df P w K mg base 2 (Str.ofString "_law_one_of") s_law_one_of [(Str.ofString "_law_well_here"), (Str.ofString "_law_some")] (tf p_law_one_of) :=
  have nd := sc_law_one_of.nd
  df_q (b := b_law_one_of) r sc_law_one_of (fun _ _ _ _ _ _ us hl => match us, hl with | [_, _], _ => rfl) o_law_one_of (fun f cdv A outer s H E W hG C =>
  (qss_one (qs_ret (qe_ixV 1 (qe_callD C hG D_law_dip (by decide) (qa_cons (qe_var 0) (qa_cons (qe_callB call_len cd_len (by rfl) T.n_len (by decide +kernel) (qa_cons (qe_var 1) qa_nil)) qa_nil)))))))
abbrev s_law_base : Stmt := top 78
theorem sc_law_base : FnScope [(Str.ofString "_law_well_here"), (Str.ofString "_law_high"), (Str.ofString "_law_number_here"), (Str.ofString "_law_wide"), (Str.ofString "_law_found"), (Str.ofString "_law_k")] [(Str.ofString "_law_well_here")] (defScope s_law_base) := ⟨rfl, rfl, rfl, by decide +kernel, rfl, by decide +kernel, by decide +kernel⟩
theorem d_law_base {P : Program} {w : World} {K : PySem.W.Frag} {mg : Str → Option Value} {base : Heap} (r : Raw K mg (Str.ofString "_law_base") s_law_base) (T : Top w K mg) (D_law_dip : Df P w K mg base 1 (Str.ofString "_law_dip") s_law_dip [(Str.ofString "_law_well_here"), (Str.ofString "_law_sides")] (tf p_law_dip)) (D_law_one_of : Df P w K mg base 2 (Str.ofString "_law_one_of") s_law_one_of [(Str.ofString "_law_well_here"), (Str.ofString "_law_some")] (tf p_law_one_of)) : Df P w K mg base 3 (Str.ofString "_law_base") s_law_base [(Str.ofString "_law_well_here")] (tf p_law_base) :=
  have nd := sc_law_base.nd
  df_q (b := b_law_base) r sc_law_base (fun _ _ _ _ _ _ us hl => match us, hl with | [_], _ => rfl) o_law_base (fun f cdv A outer s H E W hG C =>
  (qss_cons (qs_set nd (qe_callD C hG D_law_one_of (by decide) (qa_cons (qe_var 0) (qa_cons (qe_lst (qa_cons qe_int (qa_cons qe_int (qa_cons qe_int (qa_cons qe_int (qa_cons qe_int (qa_cons qe_int (qa_cons qe_int qa_nil)))))))) qa_nil))))
  (qss_cons (qs_set nd (qe_if (qt_cmp (or_eqA C.u64) od_eq (qe_callD C hG D_law_dip (by decide) (qa_cons (qe_var 0) (qa_cons qe_int qa_nil))) qe_int (nomark _)) (qe_var 1) (qe_op op_sub od_sub qe_int (qe_var 1))))
  (qss_cons (qs_set nd (qe_callD C hG D_law_one_of (by decide) (qa_cons (qe_var 0) (qa_cons (qe_lst (qa_cons qe_int (qa_cons qe_int (qa_cons qe_int (qa_cons qe_int qa_nil))))) qa_nil))))
  (qss_cons (qs_set nd (qe_op or_add od_add (qe_lst (qa_cons qe_int qa_nil)) (qe_lc (own := [((Str.ofString "_law_k"), 5)]) nd (qi_range2 (qa_cons qe_int (qa_cons (qe_var 1) qa_nil)) (by rfl) T.n_range) (blkOk_by (by kernel_rfl)) (fun _ _ _ _ _ => (tg_name nd)) (tin_name (by decide)) (fun _ _ _ _ _ => qts_nil) (fun _ _ _ _ _ => (qe_op or_add od_add (qe_var 5) (qe_op or_mul od_mul (qe_var 1) (qe_op op_sub od_sub (qe_callD (C.blk _ _ _ _ _ PassesOwn.never) hG D_law_dip (by decide) (qa_cons (qe_var 0) (qa_cons (qe_op or_mul od_mul qe_int (qe_var 3)) qa_nil))) (qe_var 3))))))))
  (qss_one (qs_ret (qe_tup (qa_cons (qe_var 2) (qa_cons (qe_callTy call_tuple_of cd_tuple (by rfl) T.n_tuple (by decide +kernel) (qa_cons (qe_callB (cr_sortedX (by rfl)) cd_sortedX (by rfl) T.n_sorted (by decide +kernel) (qa_cons (qe_var 4) qa_nil)) qa_nil)) qa_nil))))))))))
abbrev s_law_last : Stmt := top 79
theorem sc_law_last : FnScope [(Str.ofString "_law_figures_here"), (Str.ofString "_law_number_here"), (Str.ofString "_law_each")] [(Str.ofString "_law_figures_here"), (Str.ofString "_law_number_here")] (defScope s_law_last) := ⟨rfl, rfl, rfl, by decide +kernel, rfl, by decide +kernel, by decide +kernel⟩
theorem d_law_last {P : Program} {w : World} {K : PySem.W.Frag} {mg : Str → Option Value} {base : Heap} (r : Raw K mg (Str.ofString "_law_last") s_law_last) (T : Top w K mg) : Df P w K mg base 1 (Str.ofString "_law_last") s_law_last [(Str.ofString "_law_figures_here"), (Str.ofString "_law_number_here")] (tf f_law_last) :=
  have nd := sc_law_last.nd
  df_q (b := b_law_last) r sc_law_last (fun _ _ _ _ _ _ us hl => match us, hl with | [_, _], _ => rfl) (fun _ _ => M.le_refl _) (fun f cdv A outer s H E W hG C =>
  (qss_one (qs_ret (qe_ix (qe_lc (own := [((Str.ofString "_law_each"), 2)]) nd (qi_seq (qe_var 0)) (blkOk_by (by kernel_rfl)) (fun _ _ _ _ _ => (tg_name nd)) (tin_name (by decide)) (fun _ _ _ _ _ => (qts_one (qt_cmp (or_eqA (C.blk _ _ _ _ _ PassesOwn.never).u64) od_eq (qe_op op_modN od_mod (qe_callTy call_int1 cd_int (by rfl) T.n_int (by decide +kernel) (qa_cons (qe_op op_sub od_sub (qe_var 1) (qe_var 2)) qa_nil)) (qe_callB call_len cd_len (by rfl) T.n_len (by decide +kernel) (qa_cons (qe_var 0) qa_nil))) qe_int (nomark _)))) (fun _ _ _ _ _ => (qe_var 2))) qe_int))))
abbrev s_law_next : Stmt := top 80
theorem sc_law_next : FnScope [(Str.ofString "_law_base_here"), (Str.ofString "_law_number_here"), (Str.ofString "_law_high"), (Str.ofString "_law_figures_here"), (Str.ofString "_law_rest_here")] [(Str.ofString "_law_base_here"), (Str.ofString "_law_number_here")] (defScope s_law_next) := ⟨rfl, rfl, rfl, by decide +kernel, rfl, by decide +kernel, by decide +kernel⟩
theorem d_law_next {P : Program} {w : World} {K : PySem.W.Frag} {mg : Str → Option Value} {base : Heap} (r : Raw K mg (Str.ofString "_law_next") s_law_next) (T : Top w K mg) (D_law_last : Df P w K mg base 1 (Str.ofString "_law_last") s_law_last [(Str.ofString "_law_figures_here"), (Str.ofString "_law_number_here")] (tf f_law_last)) : Df P w K mg base 2 (Str.ofString "_law_next") s_law_next [(Str.ofString "_law_base_here"), (Str.ofString "_law_number_here")] (tf f_law_next) :=
  have nd := sc_law_next.nd
  df_q (b := b_law_next) r sc_law_next (fun _ _ _ _ _ _ us hl => match us, hl with | [_, _], _ => rfl) (fun _ _ => M.le_refl _) (fun f cdv A outer s H E W hG C =>
  (qss_cons (qs_asgN (qe_var 0) (tg_tup (pgs_nm nd (pgs_nm nd pgs_nm0))))
  (qss_cons (qs_set nd (qe_op op_sub od_sub (qe_var 1) (qe_callD C hG D_law_last (by decide) (qa_cons (qe_var 3) (qa_cons (qe_var 1) qa_nil)))))
  (qss_one (qs_ret (qe_op or_div od_div (qe_var 4) (qe_var 2)))))))
abbrev s_law_way : Stmt := top 81
theorem sc_law_way : FnScope [(Str.ofString "_law_base_here"), (Str.ofString "_law_number_here"), (Str.ofString "_law_found"), (Str.ofString "_law_turn")] [(Str.ofString "_law_base_here"), (Str.ofString "_law_number_here")] (defScope s_law_way) := ⟨rfl, rfl, rfl, by decide +kernel, rfl, by decide +kernel, by decide +kernel⟩
theorem d_law_way {P : Program} {w : World} {K : PySem.W.Frag} {mg : Str → Option Value} {base : Heap} (r : Raw K mg (Str.ofString "_law_way") s_law_way) (T : Top w K mg) (D_law_next : Df P w K mg base 2 (Str.ofString "_law_next") s_law_next [(Str.ofString "_law_base_here"), (Str.ofString "_law_number_here")] (tf f_law_next)) : Df P w K mg base 3 (Str.ofString "_law_way") s_law_way [(Str.ofString "_law_base_here"), (Str.ofString "_law_number_here")] (tf f_law_way) :=
  have nd := sc_law_way.nd
  df_q (b := b_law_way) r sc_law_way (fun _ _ _ _ _ _ us hl => match us, hl with | [_, _], _ => rfl) (fun _ _ => M.le_refl _) (fun f cdv A outer s H E W hG C =>
  (qss_cons (qs_set nd (qe_lst (qa_cons (qe_var 1) qa_nil)))
  (qss_cons (qs_for [3] C.po (qi_range1 (qa_cons qe_int qa_nil) (by rfl) T.n_range) (tg_name nd) (qss_cons (qs_if (QW.pt (qw_or (qt_cmp (or_eqA C.u64) od_eq (qe_ixV 2 (qe_neg qe_int)) qe_int (nomark _)) (qw_or1 (qt_cmp op_in_seq od_in (qe_ixV 2 (qe_neg qe_int)) (qe_slV 2 qo_none (qo_some (qe_neg qe_int))) (by rfl))))) (qss_one (qs_ret (qe_var 2))) qss_nil)
  (qss_one (qs_app 2 (qe_callD C hG D_law_next (by decide) (qa_cons (qe_var 0) (qa_cons (qe_ixV 2 (qe_neg qe_int)) qa_nil)))))))
  (qss_one (qs_ret (qe_var 2))))))
abbrev s_law_written : Stmt := top 82
theorem sc_law_written : FnScope [(Str.ofString "_law_base_here"), (Str.ofString "_law_number_here"), (Str.ofString "_law_way_here"), (Str.ofString "_law_each")] [(Str.ofString "_law_base_here"), (Str.ofString "_law_number_here")] (defScope s_law_written) := ⟨rfl, rfl, rfl, by decide +kernel, rfl, by decide +kernel, by decide +kernel⟩
theorem d_law_written {P : Program} {w : World} {K : PySem.W.Frag} {mg : Str → Option Value} {base : Heap} (r : Raw K mg (Str.ofString "_law_written") s_law_written) (T : Top w K mg) (D_law_last : Df P w K mg base 1 (Str.ofString "_law_last") s_law_last [(Str.ofString "_law_figures_here"), (Str.ofString "_law_number_here")] (tf f_law_last)) (D_law_way : Df P w K mg base 3 (Str.ofString "_law_way") s_law_way [(Str.ofString "_law_base_here"), (Str.ofString "_law_number_here")] (tf f_law_way)) : Df P w K mg base 4 (Str.ofString "_law_written") s_law_written [(Str.ofString "_law_base_here"), (Str.ofString "_law_number_here")] (tf f_law_written) :=
  have nd := sc_law_written.nd
  df_q (b := b_law_written) r sc_law_written (fun _ _ _ _ _ _ us hl => match us, hl with | [_, _], _ => rfl) (fun _ _ => M.le_refl _) (fun f cdv A outer s H E W hG C =>
  (qss_cons (qs_set nd (qe_callD C hG D_law_way (by decide) (qa_cons (qe_var 0) (qa_cons (qe_var 1) qa_nil))))
  (qss_cons (qs_if (qt_cmp (or_neA C.u64) od_ne (qe_ixV 2 (qe_neg qe_int)) qe_int (nomark _)) (qss_one (qs_ret qe_non)) qss_nil)
  (qss_one (qs_ret (qe_callTy call_tuple_of cd_tuple (by rfl) T.n_tuple (by decide +kernel) (qa_cons (qe_rev (qe_lc (own := [((Str.ofString "_law_each"), 3)]) nd (qi_seq (qe_sl (qe_var 2) qo_none (qo_some (qe_neg qe_int)))) (blkOk_by (by kernel_rfl)) (fun _ _ _ _ _ => (tg_name nd)) (tin_name (by decide)) (fun _ _ _ _ _ => qts_nil) (fun _ _ _ _ _ => (qe_callD (C.blk _ _ _ _ _ PassesOwn.never) hG D_law_last (by decide) (qa_cons (qe_ixV 0 qe_int) (qa_cons (qe_var 3) qa_nil)))))) qa_nil)))))))
abbrev s_law_odd_papers : Stmt := top 83
theorem sc_law_odd_papers : FnScope [(Str.ofString "_law_well_here"), (Str.ofString "_law_some")] [(Str.ofString "_law_well_here")] (defScope s_law_odd_papers) := ⟨rfl, rfl, rfl, by decide +kernel, rfl, by decide +kernel, by decide +kernel⟩
theorem d_law_odd_papers {P : Program} {w : World} {K : PySem.W.Frag} {mg : Str → Option Value} {base : Heap} (r : Raw K mg (Str.ofString "_law_odd_papers") s_law_odd_papers) (T : Top w K mg) (D_law_one_of : Df P w K mg base 2 (Str.ofString "_law_one_of") s_law_one_of [(Str.ofString "_law_well_here"), (Str.ofString "_law_some")] (tf p_law_one_of)) : Df P w K mg base 3 (Str.ofString "_law_odd_papers") s_law_odd_papers [(Str.ofString "_law_well_here")] (tf p_law_odd_papers) :=
  have nd := sc_law_odd_papers.nd
  df_q (b := b_law_odd_papers) r sc_law_odd_papers (fun _ _ _ _ _ _ us hl => match us, hl with | [_], _ => rfl) o_law_odd_papers (fun f cdv A outer s H E W hG C =>
  (qss_cons (qs_set nd (qe_lst (qa_cons qe_non (qa_cons qe_int (qa_cons (qe_lst qa_nil) (qa_cons (qe_tup (qa_cons (qe_tup qa_nil) qa_nil)) (qa_cons qe_dic0 (qa_cons qe_str (qa_cons qe_str (qa_cons (qe_tup (qa_cons qe_int qa_nil)) (qa_cons (qe_tup (qa_cons qe_int (qa_cons qe_int (qa_cons qe_int qa_nil)))) (qa_cons (qe_lst (qa_cons qe_str qa_nil)) (qa_cons qe_bl (qa_cons (qe_tup (qa_cons qe_str qa_nil)) (qa_cons (qe_tup (qa_cons qe_non (qa_cons (qe_tup qa_nil) qa_nil))) (qa_cons (qe_tup (qa_cons qe_str (qa_cons (qe_tup qa_nil) (qa_cons (qe_tup qa_nil) qa_nil)))) (qa_cons (qe_tup (qa_cons (qe_tup (qa_cons qe_int qa_nil)) (qa_cons (qe_lst qa_nil) qa_nil))) qa_nil)))))))))))))))))
  (qss_one (qs_ret (qe_callD C hG D_law_one_of (by decide) (qa_cons (qe_var 0) (qa_cons (qe_var 1) qa_nil)))))))
abbrev s_law_value : Stmt := top 84
theorem sc_law_value : FnScope [(Str.ofString "_law_base_here"), (Str.ofString "_law_row"), (Str.ofString "_law_found"), (Str.ofString "_law_each")] [(Str.ofString "_law_base_here"), (Str.ofString "_law_row")] (defScope s_law_value) := ⟨rfl, rfl, rfl, by decide +kernel, rfl, by decide +kernel, by decide +kernel⟩
theorem d_law_value {P : Program} {w : World} {K : PySem.W.Frag} {mg : Str → Option Value} {base : Heap} (r : Raw K mg (Str.ofString "_law_value") s_law_value) (T : Top w K mg) : Df P w K mg base 1 (Str.ofString "_law_value") s_law_value [(Str.ofString "_law_base_here"), (Str.ofString "_law_row")] (tf f_law_value) :=
  have nd := sc_law_value.nd
  df_q (b := b_law_value) r sc_law_value (fun _ _ _ _ _ _ us hl => match us, hl with | [_, _], _ => rfl) (fun _ _ => M.le_refl _) (fun f cdv A outer s H E W hG C =>
  (qss_cons (qs_set nd qe_int)
  (qss_cons (qs_for [3] C.po (qi_seq (qe_var 1)) (tg_name nd) (qss_one (qs_set nd (qe_op or_add od_add (qe_op or_mul od_mul (qe_var 2) (qe_ixV 0 qe_int)) (qe_var 3)))))
  (qss_one (qs_ret (qe_var 2))))))
abbrev s_law_is_row : Stmt := top 85
theorem sc_law_is_row : FnScope [(Str.ofString "_law_base_here"), (Str.ofString "_law_thing"), (Str.ofString "_law_each")] [(Str.ofString "_law_base_here"), (Str.ofString "_law_thing")] (defScope s_law_is_row) := ⟨rfl, rfl, rfl, by decide +kernel, rfl, by decide +kernel, by decide +kernel⟩
theorem d_law_is_row {P : Program} {w : World} {K : PySem.W.Frag} {mg : Str → Option Value} {base : Heap} (r : Raw K mg (Str.ofString "_law_is_row") s_law_is_row) (T : Top w K mg) : Df P w K mg base 1 (Str.ofString "_law_is_row") s_law_is_row [(Str.ofString "_law_base_here"), (Str.ofString "_law_thing")] (tf f_law_is_row) :=
  have nd := sc_law_is_row.nd
  df_q (b := b_law_is_row) r sc_law_is_row (fun _ _ _ _ _ _ us hl => match us, hl with | [_, _], _ => rfl) (fun _ _ => M.le_refl _) (fun f cdv A outer s H E W hG C =>
  (qss_cons (qs_if (qt_not (qt_val (qe_callB call_isi cd_isi (by rfl) T.n_isinstance (by decide +kernel) (qa_cons (qe_var 1) (qa_cons (qe_bty (by rfl) T.n_tuple (by decide +kernel)) qa_nil))))) (qss_one (qs_ret qe_bl)) qss_nil)
  (qss_cons (qs_if (qt_cmp (or_neA C.u64) od_ne (qe_lc (own := [((Str.ofString "_law_each"), 2)]) nd (qi_seq (qe_var 1)) (blkOk_by (by kernel_rfl)) (fun _ _ _ _ _ => (tg_name nd)) (tin_name (by decide)) (fun _ _ _ _ _ => (qts_one (QW.pt (qw_or (qt_not (qt_val (qe_callB call_isi cd_isi (by rfl) T.n_isinstance (by decide +kernel) (qa_cons (qe_var 2) (qa_cons (qe_bty (by rfl) T.n_int (by decide +kernel)) qa_nil))))) (qw_or1 (qt_val (qe_callB call_isi cd_isi (by rfl) T.n_isinstance (by decide +kernel) (qa_cons (qe_var 2) (qa_cons (qe_bty (by rfl) T.n_bool (by decide +kernel)) qa_nil))))))))) (fun _ _ _ _ _ => (qe_var 2))) (qe_lst qa_nil) (nomark _)) (qss_one (qs_ret qe_bl)) qss_nil)
  (qss_one (qs_ret (qe_and (qe_cmp (or_eqA C.u64) od_eq (qe_lc (own := [((Str.ofString "_law_each"), 2)]) nd (qi_seq (qe_var 1)) (blkOk_by (by kernel_rfl)) (fun _ _ _ _ _ => (tg_name nd)) (tin_name (by decide)) (fun _ _ _ _ _ => (qts_one (qt_cmp op_notIn_seq od_nin (qe_var 2) (qe_ixV 0 qe_int) (by rfl)))) (fun _ _ _ _ _ => (qe_var 2))) (qe_lst qa_nil) (nomark _)) (qe_one (qe_or (qe_cmp (or_eqA C.u64) od_eq (qe_var 1) (qe_tup qa_nil) (nomark _)) (qe_one (qe_cmp (or_neA C.u64) od_ne (qe_ixV 1 qe_int) qe_int (nomark _)))))))))))
abbrev s_law_bent : Stmt := top 86
theorem sc_law_bent : FnScope [(Str.ofString "_law_well_here"), (Str.ofString "_law_base_here"), (Str.ofString "_law_row"), (Str.ofString "_law_k"), (Str.ofString "_law_odd"), (Str.ofString "_law_some")] [(Str.ofString "_law_well_here"), (Str.ofString "_law_base_here"), (Str.ofString "_law_row")] (defScope s_law_bent) := ⟨rfl, rfl, rfl, by decide +kernel, rfl, by decide +kernel, by decide +kernel⟩
theorem d_law_bent {P : Program} {w : World} {K : PySem.W.Frag} {mg : Str → Option Value} {base : Heap} (r : Raw K mg (Str.ofString "_law_bent") s_law_bent) (T : Top w K mg) (D_law_dip : Df P w K mg base 1 (Str.ofString "_law_dip") s_law_dip [(Str.ofString "_law_well_here"), (Str.ofString "_law_sides")] (tf p_law_dip)) (D_law_one_of : Df P w K mg base 2 (Str.ofString "_law_one_of") s_law_one_of [(Str.ofString "_law_well_here"), (Str.ofString "_law_some")] (tf p_law_one_of)) : Df P w K mg base 3 (Str.ofString "_law_bent") s_law_bent [(Str.ofString "_law_well_here"), (Str.ofString "_law_base_here"), (Str.ofString "_law_row")] (tf p_law_bent) :=
  have nd := sc_law_bent.nd
  df_q (b := b_law_bent) r sc_law_bent (fun _ _ _ _ _ _ us hl => match us, hl with | [_, _, _], _ => rfl) o_law_bent (fun f cdv A outer s H E W hG C =>
  (qss_cons (qs_set nd (qe_callD C hG D_law_dip (by decide) (qa_cons (qe_var 0) (qa_cons (qe_op or_add od_add (qe_callB call_len cd_len (by rfl) T.n_len (by decide +kernel) (qa_cons (qe_var 2) qa_nil)) qe_int) qa_nil))))
  (qss_cons (qs_set nd (qe_callD C hG D_law_one_of (by decide) (qa_cons (qe_var 0) (qa_cons (qe_lst (qa_cons qe_int (qa_cons qe_int (qa_cons (qe_ix (qe_ixV 1 qe_int) qe_int) (qa_cons (qe_ix (qe_ixV 1 qe_int) (qe_neg qe_int)) (qa_cons qe_int (qa_cons qe_non (qa_cons qe_bl (qa_cons qe_str (qa_cons (qe_tup (qa_cons qe_int qa_nil)) qa_nil)))))))))) qa_nil))))
  (qss_cons (qs_set nd (qe_lst (qa_cons (qe_op or_add od_add (qe_op or_add od_add (qe_sl (qe_var 2) qo_none (qo_some (qe_var 3))) (qe_tup (qa_cons (qe_var 4) qa_nil))) (qe_sl (qe_var 2) (qo_some (qe_var 3)) qo_none)) (qa_cons (qe_op or_add od_add (qe_op or_add od_add (qe_sl (qe_var 2) qo_none (qo_some (qe_var 3))) (qe_tup (qa_cons (qe_var 4) qa_nil))) (qe_sl (qe_var 2) (qo_some (qe_op or_add od_add (qe_var 3) qe_int)) qo_none)) (qa_cons (qe_op or_add od_add (qe_tup (qa_cons qe_int qa_nil)) (qe_var 2)) (qa_cons (qe_callTy call_list_of cd_list (by rfl) T.n_list (by decide +kernel) (qa_cons (qe_var 2) qa_nil)) (qa_cons (qe_sl (qe_var 2) (qo_some qe_int) qo_none) (qa_cons (qe_revT (qe_var 2)) qa_nil))))))))
  (qss_one (qs_ret (qe_callD C hG D_law_one_of (by decide) (qa_cons (qe_var 0) (qa_cons (qe_var 5) qa_nil)))))))))
abbrev s_law_odd_base : Stmt := top 87
theorem sc_law_odd_base : FnScope [(Str.ofString "_law_well_here"), (Str.ofString "_law_base_here"), (Str.ofString "_law_high"), (Str.ofString "_law_some"), (Str.ofString "_law_menu")] [(Str.ofString "_law_well_here"), (Str.ofString "_law_base_here")] (defScope s_law_odd_base) := ⟨rfl, rfl, rfl, by decide +kernel, rfl, by decide +kernel, by decide +kernel⟩
theorem d_law_odd_base {P : Program} {w : World} {K : PySem.W.Frag} {mg : Str → Option Value} {base : Heap} (r : Raw K mg (Str.ofString "_law_odd_base") s_law_odd_base) (T : Top w K mg) (D_law_one_of : Df P w K mg base 2 (Str.ofString "_law_one_of") s_law_one_of [(Str.ofString "_law_well_here"), (Str.ofString "_law_some")] (tf p_law_one_of)) : Df P w K mg base 3 (Str.ofString "_law_odd_base") s_law_odd_base [(Str.ofString "_law_well_here"), (Str.ofString "_law_base_here")] (tf p_law_odd_base) :=
  have nd := sc_law_odd_base.nd
  df_q (b := b_law_odd_base) r sc_law_odd_base (fun _ _ _ _ _ _ us hl => match us, hl with | [_, _], _ => rfl) o_law_odd_base (fun f cdv A outer s H E W hG C =>
  (qss_cons (qs_asgN (qe_var 1) (tg_tup (pgs_nm nd (pgs_nm nd pgs_nm0))))
  (qss_cons (qs_set nd (qe_lst (qa_cons (qe_tup (qa_cons qe_int (qa_cons (qe_tup (qa_cons qe_int qa_nil)) qa_nil))) (qa_cons (qe_tup (qa_cons qe_int (qa_cons (qe_tup qa_nil) qa_nil))) (qa_cons (qe_tup (qa_cons qe_bl (qa_cons (qe_var 3) qa_nil))) (qa_cons (qe_tup (qa_cons (qe_var 2) (qa_cons (qe_callTy call_list_of cd_list (by rfl) T.n_list (by decide +kernel) (qa_cons (qe_var 3) qa_nil)) qa_nil))) (qa_cons (qe_tup (qa_cons (qe_var 2) (qa_cons (qe_sl (qe_var 3) (qo_some qe_int) qo_none) qa_nil))) (qa_cons (qe_tup (qa_cons (qe_var 2) (qa_cons (qe_revT (qe_var 3)) qa_nil))) (qa_cons (qe_tup (qa_cons qe_int (qa_cons (qe_var 3) qa_nil))) qa_nil)))))))))
  (qss_cons (qs_set nd (qe_op or_add od_add (qe_var 4) (qe_lst (qa_cons (qe_tup (qa_cons qe_non (qa_cons (qe_var 3) qa_nil))) (qa_cons (qe_tup (qa_cons (qe_var 2) (qa_cons (qe_op or_add od_add (qe_var 3) (qe_tup (qa_cons qe_int qa_nil))) qa_nil))) (qa_cons (qe_tup (qa_cons (qe_callTy call_str_int cd_strI (by rfl) T.n_str (by decide +kernel) (qa_cons (qe_var 2) qa_nil)) (qa_cons (qe_var 3) qa_nil))) (qa_cons (qe_tup (qa_cons (qe_var 2) (qa_cons (qe_op or_add od_add (qe_sl (qe_var 3) qo_none (qo_some (qe_neg qe_int))) (qe_tup (qa_cons qe_int qa_nil))) qa_nil))) qa_nil)))))))
  (qss_one (qs_ret (qe_callD C hG D_law_one_of (by decide) (qa_cons (qe_var 0) (qa_cons (qe_var 4) qa_nil)))))))))
abbrev s_Base_write : Stmt := clsB (top 35) 6
theorem sc_Base_write : FnScope [(Str.ofString "self"), (Str.ofString "number")] [(Str.ofString "self"), (Str.ofString "number")] (defScope s_Base_write) := ⟨rfl, rfl, rfl, by decide +kernel, rfl, by decide +kernel, by decide +kernel⟩
theorem d_Base_write {P : Program} {w : World} {K : PySem.W.Frag} {mg : Str → Option Value} {base : Heap} (r : RawM K mg (Str.ofString "Base") (Str.ofString "write") (Str.ofString "Base.write") s_Base_write) (T : Top w K mg) (D_check_integer : Df P w K mg base 3 (Str.ofString "check_integer") s_check_integer [(Str.ofString "value")] (tf f_check_integer)) (D_written_by : Df P w K mg base 3 (Str.ofString "written_by") s_written_by [(Str.ofString "base"), (Str.ofString "number")] (tf f_written_by)) : DfM P w K mg base 4 (Str.ofString "Base") (Str.ofString "write") (Str.ofString "Base.write") s_Base_write [(Str.ofString "self"), (Str.ofString "number")] (tf f_Base_write) :=
  have nd := sc_Base_write.nd
  dfm_q (b := b_Base_write) r sc_Base_write (fun _ _ _ _ _ _ us hl => match us, hl with | [_, _], _ => rfl) (fun _ _ => M.le_refl _) (fun f cdv A outer s H H0 E W hG C =>
  (qss_cons (qs_expr (qe_callD C hG D_check_integer (by decide) (qa_cons (qe_var 1) qa_nil)))
  (qss_one (qs_ret (qe_callD C hG D_written_by (by decide) (qa_cons (qe_var 0) (qa_cons (qe_var 1) qa_nil)))))))
abbrev s_law_right : Stmt := top 88
theorem sc_law_right : FnScope [(Str.ofString "_law_well_here"), (Str.ofString "_law_base_here"), (Str.ofString "_law_mine"), (Str.ofString "_law_turn"), (Str.ofString "_law_row"), (Str.ofString "_law_spot"), (Str.ofString "_law_thing"), (Str.ofString "_law_due"), (Str.ofString "_law_said"), (Str.ofString "_law_told"), (Str.ofString "_law_odd"), (Str.ofString "_law_wrong"), (Str.ofString "_law_k")] [(Str.ofString "_law_well_here")] (defScope s_law_right) := ⟨rfl, rfl, rfl, by decide +kernel, rfl, by decide +kernel, by decide +kernel⟩
theorem d_law_right {P : Program} {w : World} {K : PySem.W.Frag} {mg : Str → Option Value} {base : Heap} (r : Raw K mg (Str.ofString "_law_right") s_law_right) (T : Top w K mg) (D_Base_init : DfI P w K mg base 4 (Str.ofString "Base") (Str.ofString "Base.__init__") s_Base_init [(Str.ofString "self"), (Str.ofString "number"), (Str.ofString "figures")] (tf f_Base_init)) (D_Base_write : DfM P w K mg base 4 (Str.ofString "Base") (Str.ofString "write") (Str.ofString "Base.write") s_Base_write [(Str.ofString "self"), (Str.ofString "number")] (tf f_Base_write)) (D_law_base : Df P w K mg base 3 (Str.ofString "_law_base") s_law_base [(Str.ofString "_law_well_here")] (tf p_law_base)) (D_law_bent : Df P w K mg base 3 (Str.ofString "_law_bent") s_law_bent [(Str.ofString "_law_well_here"), (Str.ofString "_law_base_here"), (Str.ofString "_law_row")] (tf p_law_bent)) (D_law_dip : Df P w K mg base 1 (Str.ofString "_law_dip") s_law_dip [(Str.ofString "_law_well_here"), (Str.ofString "_law_sides")] (tf p_law_dip)) (D_law_is_row : Df P w K mg base 1 (Str.ofString "_law_is_row") s_law_is_row [(Str.ofString "_law_base_here"), (Str.ofString "_law_thing")] (tf f_law_is_row)) (D_law_odd_base : Df P w K mg base 3 (Str.ofString "_law_odd_base") s_law_odd_base [(Str.ofString "_law_well_here"), (Str.ofString "_law_base_here")] (tf p_law_odd_base)) (D_law_odd_papers : Df P w K mg base 3 (Str.ofString "_law_odd_papers") s_law_odd_papers [(Str.ofString "_law_well_here")] (tf p_law_odd_papers)) (D_law_one_of : Df P w K mg base 2 (Str.ofString "_law_one_of") s_law_one_of [(Str.ofString "_law_well_here"), (Str.ofString "_law_some")] (tf p_law_one_of)) (D_law_value : Df P w K mg base 1 (Str.ofString "_law_value") s_law_value [(Str.ofString "_law_base_here"), (Str.ofString "_law_row")] (tf f_law_value)) (D_law_written : Df P w K mg base 4 (Str.ofString "_law_written") s_law_written [(Str.ofString "_law_base_here"), (Str.ofString "_law_number_here")] (tf f_law_written)) (D_accepts : Df P w K mg base 8 (Str.ofString "accepts") s_accepts [(Str.ofString "claim"), (Str.ofString "certificate")] (tf f_accepts)) : Df P w K mg base 9 (Str.ofString "_law_right") s_law_right [(Str.ofString "_law_well_here")] (tf p_law_right) :=
  have nd := sc_law_right.nd
  df_q (b := b_law_right) r sc_law_right (fun _ _ _ _ _ _ us hl => match us, hl with | [_], _ => rfl) o_law_right (fun f cdv A outer s H E W hG C =>
  (qss_cons (qs_set nd (qe_callD C hG D_law_base (by decide) (qa_cons (qe_var 0) qa_nil)))
  (qss_cons (qs_set nd (qe_make false C hG D_Base_init (by decide) (qa_cons (qe_ixV 1 qe_int) (qa_cons (qe_ixV 1 qe_int) qa_nil))))
  (qss_cons (qs_for [3, 4, 5, 6, 7, 8, 9, 10, 11] C.po (qi_range1 (qa_cons qe_int qa_nil) (by rfl) T.n_range) (tg_name nd) (qss_cons (qs_set nd (qe_callTy call_tuple_of cd_tuple (by rfl) T.n_tuple (by decide +kernel) (qa_cons (qe_lc (own := [((Str.ofString "_law_k"), 12)]) nd (qi_range1 (qa_cons (qe_callD C hG D_law_dip (by decide) (qa_cons (qe_var 0) (qa_cons qe_int qa_nil))) qa_nil) (by rfl) T.n_range) (blkOk_by (by kernel_rfl)) (fun _ _ _ _ _ => (tg_name nd)) (tin_name (by decide)) (fun _ _ _ _ _ => qts_nil) (fun _ _ _ _ _ => (qe_callD (C.blk _ _ _ _ _ PassesOwn.never) hG D_law_one_of (by decide) (qa_cons (qe_var 0) (qa_cons (qe_ixV 1 qe_int) qa_nil))))) qa_nil)))
  (qss_cons (qs_set nd (qe_callD C hG D_law_one_of (by decide) (qa_cons (qe_var 0) (qa_cons (qe_lst (qa_cons (qe_callD C hG D_law_value (by decide) (qa_cons (qe_var 1) (qa_cons (qe_var 4) qa_nil))) (qa_cons (qe_callD C hG D_law_value (by decide) (qa_cons (qe_var 1) (qa_cons (qe_var 4) qa_nil))) (qa_cons (qe_op op_sub od_sub (qe_callD C hG D_law_dip (by decide) (qa_cons (qe_var 0) (qa_cons qe_int qa_nil))) qe_int) (qa_cons (qe_op or_add od_add (qe_op op_pow od_pow qe_int qe_int) qe_int) qa_nil))))) qa_nil))))
  (qss_cons (qs_for [6, 7, 8, 9] C.po (qi_seq (qe_lst (qa_cons (qe_var 4) (qa_cons (qe_callD C hG D_law_bent (by decide) (qa_cons (qe_var 0) (qa_cons (qe_var 1) (qa_cons (qe_var 4) qa_nil)))) (qa_cons (qe_callD C hG D_law_written (by decide) (qa_cons (qe_var 1) (qa_cons (qe_var 5) qa_nil))) qa_nil))))) (tg_name nd) (qss_cons (qs_set nd (qe_and (qe_callD C hG D_law_is_row (by decide) (qa_cons (qe_var 1) (qa_cons (qe_var 6) qa_nil))) (qe_one (qe_cmp (or_eqA C.u64) od_eq (qe_callD C hG D_law_value (by decide) (qa_cons (qe_var 1) (qa_cons (qe_var 6) qa_nil))) (qe_var 5) (nomark _)))))
  (qss_cons (qs_set nd (qe_tup (qa_cons qe_str (qa_cons (qe_ixV 1 qe_int) (qa_cons (qe_ixV 1 qe_int) (qa_cons (qe_var 5) qa_nil))))))
  (qss_cons (qs_if (qt_cmp (or_neA C.u64) od_ne (qe_callB (cr_repr C.gd C.u64) cd_repr (by rfl) T.n_repr (by decide +kernel) (qa_cons (qe_lst (qa_cons (qe_callD C hG D_accepts (by decide) (qa_cons (qe_var 8) (qa_cons (qe_var 6) qa_nil))) (qa_cons (qe_callK0 [1, 0] [(Str.ofString "certificate"), (Str.ofString "claim")] C hG D_accepts (by decide) (qk_cons (qe_var 6) (qk_cons (qe_var 8) qk_nil)) (fun _ _ _ _ _ _ ws hk => match ws, hk with | [_, _], _ => rfl)) qa_nil))) qa_nil)) (qe_callB (cr_repr C.gd C.u64) cd_repr (by rfl) T.n_repr (by decide +kernel) (qa_cons (qe_lst (qa_cons (qe_var 7) (qa_cons (qe_var 7) qa_nil))) qa_nil)) (nomark _)) (qss_one (qs_ret qe_bl)) qss_nil)
  (qss_cons (qs_set nd (qe_lst (qa_cons (qe_meth C hG D_Base_write (by decide) (qe_var 2) (qa_cons (qe_var 5) qa_nil)) (qa_cons (qe_callD C hG D_law_written (by decide) (qa_cons (qe_var 1) (qa_cons (qe_var 5) qa_nil))) qa_nil))))
  (qss_one (qs_if (QW.pt (qw_and (qt_val (qe_var 7)) (qw_and1 (qt_cmp (or_neA C.u64) od_ne (qe_var 9) (qe_lst (qa_cons (qe_var 6) (qa_cons (qe_var 6) qa_nil))) (nomark _))))) (qss_one (qs_ret qe_bl)) qss_nil)))))))
  (qss_cons (qs_if (qt_cmp (or_neA C.u64) od_ne (qe_isN (qe_meth C hG D_Base_write (by decide) (qe_var 2) (qa_cons (qe_var 5) qa_nil))) (qe_isN (qe_callD C hG D_law_written (by decide) (qa_cons (qe_var 1) (qa_cons (qe_var 5) qa_nil)))) (nomark _)) (qss_one (qs_ret qe_bl)) qss_nil)
  (qss_cons (qs_set nd (qe_callD C hG D_law_odd_base (by decide) (qa_cons (qe_var 0) (qa_cons (qe_var 1) qa_nil))))
  (qss_cons (qs_if (QW.pt (qw_or (qt_cmp op_notBl od_notB (qe_callD C hG D_accepts (by decide) (qa_cons (qe_tup (qa_cons qe_str (qa_cons (qe_ixV 10 qe_int) (qa_cons (qe_ixV 10 qe_int) (qa_cons (qe_var 5) qa_nil))))) (qa_cons (qe_var 4) qa_nil))) qe_bl (nomark _)) (qw_or1 (qt_cmp op_notBl od_notB (qe_callD C hG D_accepts (by decide) (qa_cons (qe_tup (qa_cons qe_str (qa_cons (qe_ixV 10 qe_int) (qa_cons (qe_ixV 10 qe_int) qa_nil)))) (qa_cons (qe_tup qa_nil) qa_nil))) qe_bl (nomark _))))) (qss_one (qs_ret qe_bl)) qss_nil)
  (qss_one (qs_for [11] C.po (qi_seq (qe_lst (qa_cons qe_non (qa_cons qe_bl (qa_cons qe_str (qa_cons (qe_tup (qa_cons qe_int qa_nil)) qa_nil)))))) (tg_name nd) (qss_one (qs_if (qt_cmp op_notBl od_notB (qe_callD C hG D_accepts (by decide) (qa_cons (qe_tup (qa_cons qe_str (qa_cons (qe_ixV 1 qe_int) (qa_cons (qe_ixV 1 qe_int) (qa_cons (qe_var 11) qa_nil))))) (qa_cons (qe_var 4) qa_nil))) qe_bl (nomark _)) (qss_one (qs_ret qe_bl)) qss_nil)))))))))))
  (qss_one (qs_ret (qe_cmp op_isBl od_isB (qe_callD C hG D_accepts (by decide) (qa_cons (qe_tup (qa_cons qe_str (qa_cons (qe_ixV 1 qe_int) (qa_cons (qe_ixV 1 qe_int) (qa_cons qe_int qa_nil))))) (qa_cons (qe_callD C hG D_law_odd_papers (by decide) (qa_cons (qe_var 0) qa_nil)) qa_nil))) qe_bl (nomark _))))))))
abbrev s_law : Stmt := top 89
theorem sc_law : FnScope [(Str.ofString "_law_cells"), (Str.ofString "_law_turn")] [(Str.ofString "_law_cells")] (defScope s_law) := ⟨rfl, rfl, rfl, by decide +kernel, rfl, by decide +kernel, by decide +kernel⟩
theorem d_law {P : Program} {w : World} {K : PySem.W.Frag} {mg : Str → Option Value} {base : Heap} (r : Raw K mg (Str.ofString "law") s_law) (T : Top w K mg) (D_law_right : Df P w K mg base 9 (Str.ofString "_law_right") s_law_right [(Str.ofString "_law_well_here")] (tf p_law_right)) (D_law_well : Df P w K mg base 1 (Str.ofString "_law_well") s_law_well [(Str.ofString "_law_cells"), (Str.ofString "_law_turn")] (tf p_law_well)) : Df P w K mg base 10 (Str.ofString "law") s_law [(Str.ofString "_law_cells")] (tf f_law) :=
  have nd := sc_law.nd
  df_q (b := b_law) r sc_law (fun _ _ _ _ _ _ us hl => match us, hl with | [_], _ => rfl) (fun _ _ => M.le_refl _) (fun f cdv A outer s H E W hG C =>
  (qss_one (qs_ret (qe_callB (cr_all rfl) cd_all (by rfl) T.n_all (by decide +kernel) (qa_cons (qe_lc (own := [((Str.ofString "_law_turn"), 1)]) nd (qi_range1 (qa_cons (qe_callB (call_max2 rfl) cd_max2 (by rfl) T.n_max (by decide +kernel) (qa_cons qe_int (qa_cons (qe_callB (call_min2 rfl) cd_min2 (by rfl) T.n_min (by decide +kernel) (qa_cons (qe_callB call_len cd_len (by rfl) T.n_len (by decide +kernel) (qa_cons (qe_var 0) qa_nil)) (qa_cons qe_int qa_nil))) qa_nil))) qa_nil) (by rfl) T.n_range) (blkOk_by (by kernel_rfl)) (fun _ _ _ _ _ => (tg_name nd)) (tin_name (by decide)) (fun _ _ _ _ _ => qts_nil) (fun _ _ _ _ _ => (qe_callD (C.blk _ _ _ _ _ PassesOwn.never) hG D_law_right (by decide) (qa_cons (qe_callD (C.blk _ _ _ _ _ PassesOwn.never) hG D_law_well (by decide) (qa_cons (qe_var 0) (qa_cons (qe_var 1) qa_nil))) qa_nil)))) qa_nil)))))
theorem raws_ok {l : PySem.W.OpenLaw} {w : World} {K : PySem.W.Frag} {h : Heap} {mg : Str → Option Value} {fa : Addr} (X : K.In h) (G : h.Ns mainGlobals mg) (hfa : mg "law" = some (.ref fa)) (T : Top w K mg)
    (r_is_integer : Raw K mg (Str.ofString "is_integer") s_is_integer)
    (r_is_within : Raw K mg (Str.ofString "is_within") s_is_within)
    (r_check_integer : Raw K mg (Str.ofString "check_integer") s_check_integer)
    (r_check_figures : Raw K mg (Str.ofString "check_figures") s_check_figures)
    (r_last_of : Raw K mg (Str.ofString "last_of") s_last_of)
    (r_rest_of : Raw K mg (Str.ofString "rest_of") s_rest_of)
    (r_written_by : Raw K mg (Str.ofString "written_by") s_written_by)
    (r_round_from : Raw K mg (Str.ofString "round_from") s_round_from)
    (r_begun_least : Raw K mg (Str.ofString "begun_least") s_begun_least)
    (r_rounds_of : Raw K mg (Str.ofString "rounds_of") s_rounds_of)
    (r_Base_init : RawI K mg (Str.ofString "Base") (Str.ofString "Base.__init__") s_Base_init)
    (r_base_told : Raw K mg (Str.ofString "base_told") s_base_told)
    (r_Base_number : RawP K mg (Str.ofString "Base") (Str.ofString "number") (Str.ofString "Base.number") s_Base_number)
    (r_reads_as : Raw K mg (Str.ofString "reads_as") s_reads_as)
    (r_Base_figures : RawP K mg (Str.ofString "Base") (Str.ofString "figures") (Str.ofString "Base.figures") s_Base_figures)
    (r_is_row_of : Raw K mg (Str.ofString "is_row_of") s_is_row_of)
    (r_is_empty : Raw K mg (Str.ofString "is_empty") s_is_empty)
    (r_Base_writes_all : RawM K mg (Str.ofString "Base") (Str.ofString "writes_all") (Str.ofString "Base.writes_all") s_Base_writes_all)
    (r_accepts_base : Raw K mg (Str.ofString "accepts_base") s_accepts_base)
    (r_accepts : Raw K mg (Str.ofString "accepts") s_accepts)
    (r_law_well : Raw K mg (Str.ofString "_law_well") s_law_well)
    (r_law_dip : Raw K mg (Str.ofString "_law_dip") s_law_dip)
    (r_law_one_of : Raw K mg (Str.ofString "_law_one_of") s_law_one_of)
    (r_law_base : Raw K mg (Str.ofString "_law_base") s_law_base)
    (r_law_last : Raw K mg (Str.ofString "_law_last") s_law_last)
    (r_law_next : Raw K mg (Str.ofString "_law_next") s_law_next)
    (r_law_way : Raw K mg (Str.ofString "_law_way") s_law_way)
    (r_law_written : Raw K mg (Str.ofString "_law_written") s_law_written)
    (r_law_odd_papers : Raw K mg (Str.ofString "_law_odd_papers") s_law_odd_papers)
    (r_law_value : Raw K mg (Str.ofString "_law_value") s_law_value)
    (r_law_is_row : Raw K mg (Str.ofString "_law_is_row") s_law_is_row)
    (r_law_bent : Raw K mg (Str.ofString "_law_bent") s_law_bent)
    (r_law_odd_base : Raw K mg (Str.ofString "_law_odd_base") s_law_odd_base)
    (r_Base_write : RawM K mg (Str.ofString "Base") (Str.ofString "write") (Str.ofString "Base.write") s_Base_write)
    (r_law_right : Raw K mg (Str.ofString "_law_right") s_law_right)
    (r_law : Raw K mg (Str.ofString "law") s_law)
    : ∃ fd : FuncData, (∀ (s : Shared) (u : Value), BindsTo s fd ⟨[u], []⟩ [((Str.ofString "_law_cells"), u)]) ∧ ∀ base : Heap, K.In base → base.Ns mainGlobals mg → TabsB K mg base → FnG l.prog w K mg base 10 fa fd [(Str.ofString "_law_cells")] (tf f_law) := by
  refine end_of X G hfa r_law (fun _ _ _ _ _ _ _ _ => .of_eq rfl) fun base kb TB => ?_
  have D_is_integer : Df l.prog w K mg base 1 (Str.ofString "is_integer") s_is_integer [(Str.ofString "value")] (tf f_is_integer) := d_is_integer r_is_integer T
  have D_is_within : Df l.prog w K mg base 2 (Str.ofString "is_within") s_is_within [(Str.ofString "value"), (Str.ofString "least"), (Str.ofString "most")] (tf f_is_within) := d_is_within r_is_within T D_is_integer
  have D_check_integer : Df l.prog w K mg base 3 (Str.ofString "check_integer") s_check_integer [(Str.ofString "value")] (tf f_check_integer) := d_check_integer r_check_integer T D_is_integer
  have D_check_figures : Df l.prog w K mg base 3 (Str.ofString "check_figures") s_check_figures [(Str.ofString "figures"), (Str.ofString "size")] (tf f_check_figures) := d_check_figures r_check_figures T D_is_within
  have D_last_of : Df l.prog w K mg base 1 (Str.ofString "last_of") s_last_of [(Str.ofString "base"), (Str.ofString "number")] (tf f_last_of) := d_last_of r_last_of T
  have D_rest_of : Df l.prog w K mg base 2 (Str.ofString "rest_of") s_rest_of [(Str.ofString "base"), (Str.ofString "number")] (tf f_rest_of) := d_rest_of r_rest_of T D_last_of
  have D_written_by : Df l.prog w K mg base 3 (Str.ofString "written_by") s_written_by [(Str.ofString "base"), (Str.ofString "number")] (tf f_written_by) := d_written_by r_written_by T D_last_of D_rest_of
  have D_round_from : Df l.prog w K mg base 3 (Str.ofString "round_from") s_round_from [(Str.ofString "base"), (Str.ofString "number"), (Str.ofString "met")] (tf f_round_from) := d_round_from r_round_from T D_rest_of
  have D_begun_least : Df l.prog w K mg base 1 (Str.ofString "begun_least") s_begun_least [(Str.ofString "numbers")] (tf f_begun_least) := d_begun_least r_begun_least T
  have D_rounds_of : Df l.prog w K mg base 4 (Str.ofString "rounds_of") s_rounds_of [(Str.ofString "base")] (tf f_rounds_of) := d_rounds_of r_rounds_of T D_begun_least D_round_from
  have D_Base_init : DfI l.prog w K mg base 4 (Str.ofString "Base") (Str.ofString "Base.__init__") s_Base_init [(Str.ofString "self"), (Str.ofString "number"), (Str.ofString "figures")] (tf f_Base_init) := d_Base_init r_Base_init T D_check_figures D_is_within
  have D_base_told : Df l.prog w K mg base 6 (Str.ofString "base_told") s_base_told [(Str.ofString "number"), (Str.ofString "figures")] (tf f_base_told) := d_base_told r_base_told T D_Base_init
  have D_Base_number : DfP l.prog w K mg base 1 (Str.ofString "Base") (Str.ofString "number") [(Str.ofString "self")] (tf f_Base_number) := d_Base_number r_Base_number T
  have D_reads_as : Df l.prog w K mg base 3 (Str.ofString "reads_as") s_reads_as [(Str.ofString "base"), (Str.ofString "value")] (tf f_reads_as) := d_reads_as r_reads_as T D_Base_number
  have D_Base_figures : DfP l.prog w K mg base 1 (Str.ofString "Base") (Str.ofString "figures") [(Str.ofString "self")] (tf f_Base_figures) := d_Base_figures r_Base_figures T
  have D_is_row_of : Df l.prog w K mg base 3 (Str.ofString "is_row_of") s_is_row_of [(Str.ofString "base"), (Str.ofString "value")] (tf f_is_row_of) := d_is_row_of r_is_row_of T D_Base_figures D_is_integer
  have D_is_empty : Df l.prog w K mg base 1 (Str.ofString "is_empty") s_is_empty [(Str.ofString "value")] (tf f_is_empty) := d_is_empty r_is_empty T
  have D_Base_writes_all : DfM l.prog w K mg base 5 (Str.ofString "Base") (Str.ofString "writes_all") (Str.ofString "Base.writes_all") s_Base_writes_all [(Str.ofString "self")] (tf f_Base_writes_all) := d_Base_writes_all r_Base_writes_all T D_rounds_of
  have D_accepts_base : Df l.prog w K mg base 7 (Str.ofString "accepts_base") s_accepts_base [(Str.ofString "claim"), (Str.ofString "certificate")] (tf f_accepts_base) := d_accepts_base r_accepts_base T D_Base_writes_all D_base_told D_is_empty D_is_integer D_is_row_of D_reads_as
  have D_accepts : Df l.prog w K mg base 8 (Str.ofString "accepts") s_accepts [(Str.ofString "claim"), (Str.ofString "certificate")] (tf f_accepts) := d_accepts r_accepts T D_accepts_base
  have D_law_well : Df l.prog w K mg base 1 (Str.ofString "_law_well") s_law_well [(Str.ofString "_law_cells"), (Str.ofString "_law_turn")] (tf p_law_well) := (d_law_well r_law_well T).jarM j_law_well
  have D_law_dip : Df l.prog w K mg base 1 (Str.ofString "_law_dip") s_law_dip [(Str.ofString "_law_well_here"), (Str.ofString "_law_sides")] (tf p_law_dip) := d_law_dip r_law_dip T
  have D_law_one_of : Df l.prog w K mg base 2 (Str.ofString "_law_one_of") s_law_one_of [(Str.ofString "_law_well_here"), (Str.ofString "_law_some")] (tf p_law_one_of) := d_law_one_of r_law_one_of T D_law_dip
  have D_law_base : Df l.prog w K mg base 3 (Str.ofString "_law_base") s_law_base [(Str.ofString "_law_well_here")] (tf p_law_base) := d_law_base r_law_base T D_law_dip D_law_one_of
  have D_law_last : Df l.prog w K mg base 1 (Str.ofString "_law_last") s_law_last [(Str.ofString "_law_figures_here"), (Str.ofString "_law_number_here")] (tf f_law_last) := d_law_last r_law_last T
  have D_law_next : Df l.prog w K mg base 2 (Str.ofString "_law_next") s_law_next [(Str.ofString "_law_base_here"), (Str.ofString "_law_number_here")] (tf f_law_next) := d_law_next r_law_next T D_law_last
  have D_law_way : Df l.prog w K mg base 3 (Str.ofString "_law_way") s_law_way [(Str.ofString "_law_base_here"), (Str.ofString "_law_number_here")] (tf f_law_way) := d_law_way r_law_way T D_law_next
  have D_law_written : Df l.prog w K mg base 4 (Str.ofString "_law_written") s_law_written [(Str.ofString "_law_base_here"), (Str.ofString "_law_number_here")] (tf f_law_written) := d_law_written r_law_written T D_law_last D_law_way
  have D_law_odd_papers : Df l.prog w K mg base 3 (Str.ofString "_law_odd_papers") s_law_odd_papers [(Str.ofString "_law_well_here")] (tf p_law_odd_papers) := d_law_odd_papers r_law_odd_papers T D_law_one_of
  have D_law_value : Df l.prog w K mg base 1 (Str.ofString "_law_value") s_law_value [(Str.ofString "_law_base_here"), (Str.ofString "_law_row")] (tf f_law_value) := d_law_value r_law_value T
  have D_law_is_row : Df l.prog w K mg base 1 (Str.ofString "_law_is_row") s_law_is_row [(Str.ofString "_law_base_here"), (Str.ofString "_law_thing")] (tf f_law_is_row) := d_law_is_row r_law_is_row T
  have D_law_bent : Df l.prog w K mg base 3 (Str.ofString "_law_bent") s_law_bent [(Str.ofString "_law_well_here"), (Str.ofString "_law_base_here"), (Str.ofString "_law_row")] (tf p_law_bent) := d_law_bent r_law_bent T D_law_dip D_law_one_of
  have D_law_odd_base : Df l.prog w K mg base 3 (Str.ofString "_law_odd_base") s_law_odd_base [(Str.ofString "_law_well_here"), (Str.ofString "_law_base_here")] (tf p_law_odd_base) := d_law_odd_base r_law_odd_base T D_law_one_of
  have D_Base_write : DfM l.prog w K mg base 4 (Str.ofString "Base") (Str.ofString "write") (Str.ofString "Base.write") s_Base_write [(Str.ofString "self"), (Str.ofString "number")] (tf f_Base_write) := d_Base_write r_Base_write T D_check_integer D_written_by
  have D_law_right : Df l.prog w K mg base 9 (Str.ofString "_law_right") s_law_right [(Str.ofString "_law_well_here")] (tf p_law_right) := d_law_right r_law_right T D_Base_init D_Base_write D_law_base D_law_bent D_law_dip D_law_is_row D_law_odd_base D_law_odd_papers D_law_one_of D_law_value D_law_written D_accepts
  have D_law : Df l.prog w K mg base 10 (Str.ofString "law") s_law [(Str.ofString "_law_cells")] (tf f_law) := d_law r_law T D_law_right D_law_well
  exact D_law
end Law
open PySem PySem.W PyProof.Rows
set_option maxRecDepth 100000 in
set_option maxHeartbeats 0 in
theorem PySem.Challenge.cw_onesums_k77_whole_rows_of_figures_judged_holds : PySem.Challenge.rw_onesums_k77_whole_rows_of_figures_judged.Holds := by
  w_on; o_law; k_head; (case hw => w_witness2)
  k_fill
  refine DL.walk_g (l := PySem.Challenge.rw_onesums_k77_whole_rows_of_figures_judged) (k := 10) (wf := DL.tf Law.f_law) (x := Str.ofString "_law_cells") rfl (by decide) rfl ⟨rfl, by decide, by decide⟩ (fun w h Y => by first | exact PySem.W.kIn_of Y | exact PySem.W.km_in_of Y) (fun w => ⟨by kernel_rfl, by kernel_rfl⟩) ?F (fun ns hl => DL.law_tf (Law.law_true ns hl))
  case F =>
    intro w mg fa h KX G hmg
    refine' Law.raws_ok KX G hmg ?T ?r_is_integer ?r_is_within ?r_check_integer ?r_check_figures ?r_last_of ?r_rest_of ?r_written_by ?r_round_from ?r_begun_least ?r_rounds_of ?r_Base_init ?r_base_told ?r_Base_number ?r_reads_as ?r_Base_figures ?r_is_row_of ?r_is_empty ?r_Base_writes_all ?r_accepts_base ?r_accepts ?r_law_well ?r_law_dip ?r_law_one_of ?r_law_base ?r_law_last ?r_law_next ?r_law_way ?r_law_written ?r_law_odd_papers ?r_law_value ?r_law_is_row ?r_law_bent ?r_law_odd_base ?r_Base_write ?r_law_right ?r_law
    case T =>
      constructor
      · refine' PySem.W.mg_none_of KX G ?z; (case z => k_is)
      · refine' PySem.W.mg_none_of KX G ?z; (case z => k_is)
      · refine' PySem.W.mg_none_of KX G ?z; (case z => k_is)
      · refine' PySem.W.mg_none_of KX G ?z; (case z => k_is)
      · refine' PySem.W.mg_none_of KX G ?z; (case z => k_is)
      · refine' PySem.W.mg_none_of KX G ?z; (case z => k_is)
      · refine' PySem.W.mg_none_of KX G ?z; (case z => k_is)
      · refine' PySem.W.mg_none_of KX G ?z; (case z => k_is)
      · refine' PySem.W.mg_none_of KX G ?z; (case z => k_is)
      · refine' PySem.W.mg_none_of KX G ?z; (case z => k_is)
      · refine' PySem.W.mg_none_of KX G ?z; (case z => k_is)
      · refine' PySem.W.mg_none_of KX G ?z; (case z => k_is)
      · refine' PySem.W.mg_none_of KX G ?z; (case z => k_is)
      · refine' PySem.W.mg_none_of KX G ?z; (case z => k_is)
      · refine' PySem.W.mg_none_of KX G ?z; (case z => k_is)
      · refine' PySem.W.mg_none_of KX G ?z; (case z => k_is)
      · refine' PySem.W.mg_none_of KX G ?z; (case z => k_is)
      · refine' PySem.W.mg_none_of KX G ?z; (case z => k_is)
      · refine' PySem.W.mg_none_of KX G ?z; (case z => k_is)
      · refine' PySem.W.mg_none_of KX G ?z; (case z => k_is)
      · refine' DL.gstr_mk KX G ?z; (case z => k_is)
      · refine' DL.ktab_mk KX G ?z ?l ?k ?o ?t; (case z => k_is); (case l => k_is); (case k => k_keys); (case o => decide); (case t => rfl)
      · refine' DL.gint_mk KX G ?z; (case z => k_is)
      · refine' DL.gint_mk KX G ?z; (case z => k_is)
      · refine' DL.gint_mk KX G ?z; (case z => k_is)
      · refine' DL.gint_mk KX G ?z; (case z => k_is)
      · refine' DL.gint_mk KX G ?z; (case z => k_is)
      · refine' DL.gint_mk KX G ?z; (case z => k_is)
      · refine' DL.gint_mk KX G ?z; (case z => k_is)
      · refine' DL.fldx_mk KX G ?z ?p1 ?p2 ?p3 ?p4 ?n; (case z => k_is); (case p1 => k_is); (case p2 => k_is); (case p3 => k_is); (case p4 => k_is); (case n => k_is)
      · refine' DL.fldx_mk KX G ?z ?p1 ?p2 ?p3 ?p4 ?n; (case z => k_is); (case p1 => k_is); (case p2 => k_is); (case p3 => k_is); (case p4 => k_is); (case n => k_is)
      · refine' DL.fldx_mk KX G ?z ?p1 ?p2 ?p3 ?p4 ?n; (case z => k_is); (case p1 => k_is); (case p2 => k_is); (case p3 => k_is); (case p4 => k_is); (case n => k_is)
      · refine' DL.fldx_mk KX G ?z ?p1 ?p2 ?p3 ?p4 ?n; (case z => k_is); (case p1 => k_is); (case p2 => k_is); (case p3 => k_is); (case p4 => k_is); (case n => k_is)
      · refine' DL.isix_mk KX G ?z ?i ?t; (case z => k_is); (case i => k_is); (case t => k_is)
      · refine And.intro ?_ ?_
        · refine' ⟨DL.insx_mk KX G ?z ?p1 ?p2 ?p3 ?p4 ?q1 ?q2 ?q3 ?q4, DL.subx_mk KX G ?y1 ?y2 ?y3⟩; (case z => k_is); (case p1 => k_is); (case p2 => k_is); (case p3 => k_is); (case p4 => k_is); (case q1 => k_is); (case q2 => k_is); (case q3 => k_is); (case q4 => k_is); (case y1 => k_is); (case y2 => k_is); (case y3 => kit_is)
        refine' ⟨DL.insx_mk KX G ?z ?p1 ?p2 ?p3 ?p4 ?q1 ?q2 ?q3 ?q4, DL.subx_self KX G ?y⟩; (case z => k_is); (case p1 => k_is); (case p2 => k_is); (case p3 => k_is); (case p4 => k_is); (case q1 => k_is); (case q2 => k_is); (case q3 => k_is); (case q4 => k_is); (case y => k_is)
      · refine' DL.isix_mk KX G ?z ?i ?t; (case z => k_is); (case i => k_is); (case t => k_is)
      · refine And.intro ?_ ?_
        · refine' ⟨DL.insx_mk KX G ?z ?p1 ?p2 ?p3 ?p4 ?q1 ?q2 ?q3 ?q4, DL.subx_self KX G ?y⟩; (case z => k_is); (case p1 => k_is); (case p2 => k_is); (case p3 => k_is); (case p4 => k_is); (case q1 => k_is); (case q2 => k_is); (case q3 => k_is); (case q4 => k_is); (case y => k_is)
        refine' ⟨DL.insx_mk KX G ?z ?p1 ?p2 ?p3 ?p4 ?q1 ?q2 ?q3 ?q4, DL.subx_mk KX G ?y1 ?y2 ?y3⟩; (case z => k_is); (case p1 => k_is); (case p2 => k_is); (case p3 => k_is); (case p4 => k_is); (case q1 => k_is); (case q2 => k_is); (case q3 => k_is); (case q4 => k_is); (case y1 => k_is); (case y2 => k_is); (case y3 => kit_is)
      · refine' DL.nmc_own KX G ?z; (case z => k_is)
      · refine' DL.nmc_own KX G ?z; (case z => k_is)
      · refine' DL.nmc_own KX G ?z; (case z => k_is)
      · refine' DL.xk1_mk KX G DL.xb_ve Law.xi_InvalidBase ?z ?xq ?hd ?sa ?p1 ?p2 ?p3 ?ga ?gg ?i ?t ?no ?l ?c ?k; (case z => k_is); (case xq => kx_is); (case hd => k_is); (case sa => k_is); (case p1 => k_is); (case p2 => k_is); (case p3 => k_is); (case ga => k_is); (case gg => k_is); (case i => k_is); (case t => k_is); (case no => k_is); (case l => k_is); (case c => k_is); (case k => k_is)
      · refine' DL.xk1_mk KX G DL.xb_ve Law.xi_InvalidFigures ?z ?xq ?hd ?sa ?p1 ?p2 ?p3 ?ga ?gg ?i ?t ?no ?l ?c ?k; (case z => k_is); (case xq => kx_is); (case hd => k_is); (case sa => k_is); (case p1 => k_is); (case p2 => k_is); (case p3 => k_is); (case ga => k_is); (case gg => k_is); (case i => k_is); (case t => k_is); (case no => k_is); (case l => k_is); (case c => k_is); (case k => k_is)
      · refine' DL.xk1_mk KX G DL.xb_ve Law.xi_InvalidList ?z ?xq ?hd ?sa ?p1 ?p2 ?p3 ?ga ?gg ?i ?t ?no ?l ?c ?k; (case z => k_is); (case xq => kx_is); (case hd => k_is); (case sa => k_is); (case p1 => k_is); (case p2 => k_is); (case p3 => k_is); (case ga => k_is); (case gg => k_is); (case i => k_is); (case t => k_is); (case no => k_is); (case l => k_is); (case c => k_is); (case k => k_is)
      · refine' DL.xk1_mk KX G DL.xb_ve Law.xi_InvalidLists ?z ?xq ?hd ?sa ?p1 ?p2 ?p3 ?ga ?gg ?i ?t ?no ?l ?c ?k; (case z => k_is); (case xq => kx_is); (case hd => k_is); (case sa => k_is); (case p1 => k_is); (case p2 => k_is); (case p3 => k_is); (case ga => k_is); (case gg => k_is); (case i => k_is); (case t => k_is); (case no => k_is); (case l => k_is); (case c => k_is); (case k => k_is)
      · refine' DL.xk1_mk KX G DL.xb_ve Law.xi_InvalidNumber ?z ?xq ?hd ?sa ?p1 ?p2 ?p3 ?ga ?gg ?i ?t ?no ?l ?c ?k; (case z => k_is); (case xq => kx_is); (case hd => k_is); (case sa => k_is); (case p1 => k_is); (case p2 => k_is); (case p3 => k_is); (case ga => k_is); (case gg => k_is); (case i => k_is); (case t => k_is); (case no => k_is); (case l => k_is); (case c => k_is); (case k => k_is)
      · refine' List.forall_mem_cons.mpr ⟨DL.xrow_own KX G ?z ?y ?e ?hd ?t ?u, ?_⟩; (case z => k_is); (case y => k_is); (case e => k_is); (case hd => k_is); (case t => k_is); (case u => k_is)
        refine' List.forall_mem_cons.mpr ⟨DL.xrow_own KX G ?z ?y ?e ?hd ?t ?u, ?_⟩; (case z => k_is); (case y => k_is); (case e => k_is); (case hd => k_is); (case t => k_is); (case u => k_is)
        refine' List.forall_mem_cons.mpr ⟨DL.xrow_own KX G ?z ?y ?e ?hd ?t ?u, ?_⟩; (case z => k_is); (case y => k_is); (case e => k_is); (case hd => k_is); (case t => k_is); (case u => k_is)
        refine' List.forall_mem_cons.mpr ⟨DL.xrow_own KX G ?z ?y ?e ?hd ?t ?u, ?_⟩; (case z => k_is); (case y => k_is); (case e => k_is); (case hd => k_is); (case t => k_is); (case u => k_is)
        refine' List.forall_mem_cons.mpr ⟨DL.xrow_own KX G ?z ?y ?e ?hd ?t ?u, ?_⟩; (case z => k_is); (case y => k_is); (case e => k_is); (case hd => k_is); (case t => k_is); (case u => k_is)
        refine' List.forall_mem_cons.mpr ⟨DL.xrow_own KX G ?z ?y ?e ?hd ?t ?u, ?_⟩; (case z => k_is); (case y => k_is); (case e => k_is); (case hd => k_is); (case t => k_is); (case u => k_is)
        refine' List.forall_mem_cons.mpr ⟨DL.xrow_own KX G ?z ?y ?e ?hd ?t ?u, ?_⟩; (case z => k_is); (case y => k_is); (case e => k_is); (case hd => k_is); (case t => k_is); (case u => k_is)
        refine' List.forall_mem_cons.mpr ⟨DL.xrow_own KX G ?z ?y ?e ?hd ?t ?u, ?_⟩; (case z => k_is); (case y => k_is); (case e => k_is); (case hd => k_is); (case t => k_is); (case u => k_is)
        refine' List.forall_mem_cons.mpr ⟨DL.xrow_own KX G ?z ?y ?e ?hd ?t ?u, ?_⟩; (case z => k_is); (case y => k_is); (case e => k_is); (case hd => k_is); (case t => k_is); (case u => k_is)
        refine' List.forall_mem_cons.mpr ⟨DL.xrow_own KX G ?z ?y ?e ?hd ?t ?u, ?_⟩; (case z => k_is); (case y => k_is); (case e => k_is); (case hd => k_is); (case t => k_is); (case u => k_is)
        refine' List.forall_mem_cons.mpr ⟨DL.xrow_own KX G ?z ?y ?e ?hd ?t ?u, ?_⟩; (case z => k_is); (case y => k_is); (case e => k_is); (case hd => k_is); (case t => k_is); (case u => k_is)
        refine' List.forall_mem_cons.mpr ⟨DL.xrow_own KX G ?z ?y ?e ?hd ?t ?u, ?_⟩; (case z => k_is); (case y => k_is); (case e => k_is); (case hd => k_is); (case t => k_is); (case u => k_is)
        refine' List.forall_mem_cons.mpr ⟨DL.xrow_own KX G ?z ?y ?e ?hd ?t ?u, ?_⟩; (case z => k_is); (case y => k_is); (case e => k_is); (case hd => k_is); (case t => k_is); (case u => k_is)
        refine' List.forall_mem_cons.mpr ⟨DL.xrow_own KX G ?z ?y ?e ?hd ?t ?u, ?_⟩; (case z => k_is); (case y => k_is); (case e => k_is); (case hd => k_is); (case t => k_is); (case u => k_is)
        refine' List.forall_mem_cons.mpr ⟨DL.xrow_own KX G ?z ?y ?e ?hd ?t ?u, ?_⟩; (case z => k_is); (case y => k_is); (case e => k_is); (case hd => k_is); (case t => k_is); (case u => k_is)
        exact fun _ h => nomatch h
      · refine' List.forall_mem_cons.mpr ⟨DL.nmc_own KX G ?z, ?_⟩; (case z => k_is)
        refine' List.forall_mem_cons.mpr ⟨DL.nmc_own KX G ?z, ?_⟩; (case z => k_is)
        refine' List.forall_mem_cons.mpr ⟨DL.nmc_own KX G ?z, ?_⟩; (case z => k_is)
        refine' List.forall_mem_cons.mpr ⟨DL.nmc_own KX G ?z, ?_⟩; (case z => k_is)
        refine' List.forall_mem_cons.mpr ⟨DL.nmc_own KX G ?z, ?_⟩; (case z => k_is)
        exact fun _ h => nomatch h
      · exact fun _ h => nomatch h
      · exact fun _ h => nomatch h
    case r_is_integer =>
      refine' DL.raw_mk KX G ?a ?l ?c ?k; (case a => k_is); (case l => k_is); (case c => k_is); (case k => k_is)
    case r_is_within =>
      refine' DL.raw_mk KX G ?a ?l ?c ?k; (case a => k_is); (case l => k_is); (case c => k_is); (case k => k_is)
    case r_check_integer =>
      refine' DL.raw_mk KX G ?a ?l ?c ?k; (case a => k_is); (case l => k_is); (case c => k_is); (case k => k_is)
    case r_check_figures =>
      refine' DL.raw_mk KX G ?a ?l ?c ?k; (case a => k_is); (case l => k_is); (case c => k_is); (case k => k_is)
    case r_last_of =>
      refine' DL.raw_mk KX G ?a ?l ?c ?k; (case a => k_is); (case l => k_is); (case c => k_is); (case k => k_is)
    case r_rest_of =>
      refine' DL.raw_mk KX G ?a ?l ?c ?k; (case a => k_is); (case l => k_is); (case c => k_is); (case k => k_is)
    case r_written_by =>
      refine' DL.raw_mk KX G ?a ?l ?c ?k; (case a => k_is); (case l => k_is); (case c => k_is); (case k => k_is)
    case r_round_from =>
      refine' DL.raw_mk KX G ?a ?l ?c ?k; (case a => k_is); (case l => k_is); (case c => k_is); (case k => k_is)
    case r_begun_least =>
      refine' DL.raw_mk KX G ?a ?l ?c ?k; (case a => k_is); (case l => k_is); (case c => k_is); (case k => k_is)
    case r_rounds_of =>
      refine' DL.raw_mk KX G ?a ?l ?c ?k; (case a => k_is); (case l => k_is); (case c => k_is); (case k => k_is)
    case r_Base_init =>
      refine' DL.rawi_mk KX G ?z ?p1 ?p2 ?p3 ?p4 ?m ?a ?i ?k0 ?l ?c ?k; (case z => k_is); (case p1 => k_is); (case p2 => k_is); (case p3 => k_is); (case p4 => k_is); (case m => k_is); (case a => k_is); (case i => k_is); (case k0 => k_is); (case l => k_is); (case c => k_is); (case k => k_is)
    case r_base_told =>
      refine' DL.raw_mk KX G ?a ?l ?c ?k; (case a => k_is); (case l => k_is); (case c => k_is); (case k => k_is)
    case r_Base_number =>
      refine' DL.rawp_mk KX G ?z ?p1 ?p2 ?p3 ?p4 ?a ?g ?t ?rc ?l ?c ?k; (case z => k_is); (case p1 => k_is); (case p2 => k_is); (case p3 => k_is); (case p4 => k_is); (case a => k_is); (case g => k_is); (case t => k_is); (case rc => k_is); (case l => k_is); (case c => k_is); (case k => k_is)
    case r_reads_as =>
      refine' DL.raw_mk KX G ?a ?l ?c ?k; (case a => k_is); (case l => k_is); (case c => k_is); (case k => k_is)
    case r_Base_figures =>
      refine' DL.rawp_mk KX G ?z ?p1 ?p2 ?p3 ?p4 ?a ?g ?t ?rc ?l ?c ?k; (case z => k_is); (case p1 => k_is); (case p2 => k_is); (case p3 => k_is); (case p4 => k_is); (case a => k_is); (case g => k_is); (case t => k_is); (case rc => k_is); (case l => k_is); (case c => k_is); (case k => k_is)
    case r_is_row_of =>
      refine' DL.raw_mk KX G ?a ?l ?c ?k; (case a => k_is); (case l => k_is); (case c => k_is); (case k => k_is)
    case r_is_empty =>
      refine' DL.raw_mk KX G ?a ?l ?c ?k; (case a => k_is); (case l => k_is); (case c => k_is); (case k => k_is)
    case r_Base_writes_all =>
      refine' DL.rawm_mk KX G ?z ?p1 ?p2 ?p3 ?p4 ?a ?i ?l ?c ?k; (case z => k_is); (case p1 => k_is); (case p2 => k_is); (case p3 => k_is); (case p4 => k_is); (case a => k_is); (case i => k_is); (case l => k_is); (case c => k_is); (case k => k_is)
    case r_accepts_base =>
      refine' DL.raw_mk KX G ?a ?l ?c ?k; (case a => k_is); (case l => k_is); (case c => k_is); (case k => k_is)
    case r_accepts =>
      refine' DL.raw_mk KX G ?a ?l ?c ?k; (case a => k_is); (case l => k_is); (case c => k_is); (case k => k_is)
    case r_law_well =>
      refine' DL.raw_mk KX G ?a ?l ?c ?k; (case a => k_is); (case l => k_is); (case c => k_is); (case k => k_is)
    case r_law_dip =>
      refine' DL.raw_mk KX G ?a ?l ?c ?k; (case a => k_is); (case l => k_is); (case c => k_is); (case k => k_is)
    case r_law_one_of =>
      refine' DL.raw_mk KX G ?a ?l ?c ?k; (case a => k_is); (case l => k_is); (case c => k_is); (case k => k_is)
    case r_law_base =>
      refine' DL.raw_mk KX G ?a ?l ?c ?k; (case a => k_is); (case l => k_is); (case c => k_is); (case k => k_is)
    case r_law_last =>
      refine' DL.raw_mk KX G ?a ?l ?c ?k; (case a => k_is); (case l => k_is); (case c => k_is); (case k => k_is)
    case r_law_next =>
      refine' DL.raw_mk KX G ?a ?l ?c ?k; (case a => k_is); (case l => k_is); (case c => k_is); (case k => k_is)
    case r_law_way =>
      refine' DL.raw_mk KX G ?a ?l ?c ?k; (case a => k_is); (case l => k_is); (case c => k_is); (case k => k_is)
    case r_law_written =>
      refine' DL.raw_mk KX G ?a ?l ?c ?k; (case a => k_is); (case l => k_is); (case c => k_is); (case k => k_is)
    case r_law_odd_papers =>
      refine' DL.raw_mk KX G ?a ?l ?c ?k; (case a => k_is); (case l => k_is); (case c => k_is); (case k => k_is)
    case r_law_value =>
      refine' DL.raw_mk KX G ?a ?l ?c ?k; (case a => k_is); (case l => k_is); (case c => k_is); (case k => k_is)
    case r_law_is_row =>
      refine' DL.raw_mk KX G ?a ?l ?c ?k; (case a => k_is); (case l => k_is); (case c => k_is); (case k => k_is)
    case r_law_bent =>
      refine' DL.raw_mk KX G ?a ?l ?c ?k; (case a => k_is); (case l => k_is); (case c => k_is); (case k => k_is)
    case r_law_odd_base =>
      refine' DL.raw_mk KX G ?a ?l ?c ?k; (case a => k_is); (case l => k_is); (case c => k_is); (case k => k_is)
    case r_Base_write =>
      refine' DL.rawm_mk KX G ?z ?p1 ?p2 ?p3 ?p4 ?a ?i ?l ?c ?k; (case z => k_is); (case p1 => k_is); (case p2 => k_is); (case p3 => k_is); (case p4 => k_is); (case a => k_is); (case i => k_is); (case l => k_is); (case c => k_is); (case k => k_is)
    case r_law_right =>
      refine' DL.raw_mk KX G ?a ?l ?c ?k; (case a => k_is); (case l => k_is); (case c => k_is); (case k => k_is)
    case r_law =>
      refine' DL.raw_mk KX G ?a ?l ?c ?k; (case a => k_is); (case l => k_is); (case c => k_is); (case k => k_is)
