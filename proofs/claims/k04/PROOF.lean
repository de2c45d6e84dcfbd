import PyProof.Rows.All
import Wide.All
import OpenK.AllK
import Wide.FinOn
import HandS.ForMost
import HandS.IsInst
import HandS.Wide
import HandS.TupAny
import HandS.TupLe
import HandS.Exc
import HandS.WordsExc
import HandS.Lambda
import HandS.TupMul
import HandS.SortInts
import HandS.RaiseMore
import HandS.Deep
import PyProof.ReprRoads
import HandS.Style
import PyProof.ReprLen
import PyProof.Rows.StrIntSpec
import HandS.Comp
import HandS.Strs
import HandS.SetFor
import HandS.WideBits
import HandS.Small
import HandS.Dict
import HandS.Iter
import HandS.Property
import HandS.ClsMeth
import HandS.MakeKw
import HandS.NamedTupGet
import HandS.SlotsOwn
import HandS.More
import KE.KTupSum
import PyProof.P3In
import HandS.SortOrd
import HandS.List
import HandS.TupSets
import HandS.Conv
import HandS.DictComp
import KE.KRevSl
import PyProof.EqAt
import PyProof.TupleKey
import PyProof.ReprBulk
import HandS.ExcInit
import HandS.TryMany
import HandS.ExcField
import HandS.ExcIs
import KE.KExcInit
import HandS.HotCalls
import KE.KExcIs
import HandS.Text
import KE.KCallOwn
import PyProof.InstNe
import HandS.DictSub
import HandS.Records
import PyProof.EqKinds
import PyProof.Rows.Range3
import HandS.Star
import HandS.Zip
import PySem.Challenge.RW_onesums_k04_whole_texts_of_lots
set_option Elab.async false
set_option linter.all false
set_option maxRecDepth 100000















/-! DL0: plain data over HandS: values D, worlds, states, lifted readings. -/

namespace DL

open PySem PySem.Spec L2


/-- plain data; rls: a list that is only read; jar: a list of three ints that anybody may change -/
inductive D where
  | non | bl (b : Bool) | int (i : Int) | str (s : Str)
  | tup (ds : List D) | lst (ds : List D) | rls (ds : List D)
  | dic (kvs : List (Key × D))
  | ins (C : Str) (fs : List (Str × D))
  | exc (C : Str) (fs : List (Str × D))
  | cell (i : Nat) | cls (C : Str)
  | jar | v (x : V)
  deriving Inhabited


/-- what a slot holds: data; or a list, a dict, an instance that this slot alone holds -/
inductive S where
  | d (x : D) | own (ds : List D) | odic (kvs : List (Key × D)) | oins (a : Addr) (C : Str) (fs : List (Str × D)) | ldic (kvs : List (Key × D))
  deriving Inhabited

/-- an object that changes: its class, its attributes -/
structure Cell where
  cls : Str
  fs : List (Str × D)
  deriving Inhabited

abbrev Mem := List Cell

def S.isOwn : S → Bool
  | .d _ => false
  | .ldic _ => false
  | _ => true

def S.frz : S → D
  | .own ds => .lst ds
  | .odic ds => .dic ds
  | .ldic ds => .dic ds
  | .oins _ C fs => .ins C fs
  | .d x => x


/-- F: what never changes any more; J: the jars and (T) the tables of code objects; C: the cells; g: the module's names -/
structure Wd where
  F : Addr → Prop
  J : Addr → Prop
  C : List Addr
  g : Str → Option Value
  T : Addr → Str → Prop

def Wd.add (W : Wd) (p : Addr) : Wd := ⟨fun a => W.F a ∨ a = p, W.J, W.C, W.g, W.T⟩

def Wd.addJ (W : Wd) (p : Addr) : Wd := ⟨W.F, fun a => W.J a ∨ a = p, W.C, W.g, W.T⟩

def Wd.addC (W : Wd) (p : Addr) : Wd := ⟨W.F, W.J, W.C ++ [p], W.g, W.T⟩


def SeqT (K : PySem.W.Frag) (W : Wd) (H : Hp) (a : Addr) (xs : List V) : Prop :=
  (W.F a ∧ Rd H a (.tup xs)) ∨
    ∃ (o : Obj) (its : Array Value) (n : Nat), K.lookup a = some o ∧ o.cls = .type "tuple" ∧ o.data = .seq its n ∧ its.size ≤ sizeLine ∧ Vals xs its.toList

def SeqL (K : PySem.W.Frag) (W : Wd) (H : Hp) (a : Addr) (xs : List V) : Prop :=
  (W.F a ∧ Rd H a (.lst xs)) ∨
    ∃ (o : Obj) (its : Array Value) (n : Nat), K.lookup a = some o ∧ o.cls = .type "list" ∧ o.dict = none ∧ o.data = .seq its n ∧ its.size ≤ sizeLine ∧ Vals xs its.toList

theorem SeqT.sq {K : PySem.W.Frag} {W : Wd} {H : Hp} {a : Addr} {xs : List V} (h : SeqT K W H a xs) : SqT K H a xs :=
  h.elim (fun q => .inl q.2) .inr

theorem SeqL.sq {K : PySem.W.Frag} {W : Wd} {H : Hp} {a : Addr} {xs : List V} (h : SeqL K W H a xs) : SqL K H a xs :=
  h.elim (fun q => .inl q.2) .inr


/-- an exception's object -/
def ExO (cls : Value) (d : Option Addr) (a : Addr) : HO := .ext fun h => ∃ (oe : Obj) (fs : Array Value), h.get? a = some oe ∧ Zc cls d oe ∧ oe.data = .fields fs

structure DicAt (H : Hp) (a : Addr) (vs : List (Key × V)) : Prop where
  rd : Rd H a (.dK vs)

mutual
/-- the value x denotes d -/
inductive Dn (K : PySem.W.Frag) (W : Wd) (H : Hp) : D → V → Prop
  | non : Dn K W H .non .non
  | bl (b : Bool) : Dn K W H (.bl b) (.bl b)
  | int (i : Int) : Dn K W H (.int i) (.int i)
  | str (s : Str) : Dn K W H (.str s) (.str s)
  | tup {a : Addr} {ds : List D} {vs : List V} : SeqT K W H a vs → DnA K W H ds vs → Dn K W H (.tup ds) (.ref a)
  | lst {a : Addr} {ds : List D} {vs : List V} : W.F a → H a = some (.lst vs) → DnA K W H ds vs → Dn K W H (.lst ds) (.ref a)
  | rls {a : Addr} {ds : List D} {vs : List V} : SeqL K W H a vs → DnA K W H ds vs → Dn K W H (.rls ds) (.ref a)
  | dic {a : Addr} {ds : List (Key × D)} {vs : List (Key × V)} : W.F a → DicAt H a vs → DnK K W H ds vs → Dn K W H (.dic ds) (.ref a)
  | ins {a Ca dx : Addr} {C : Str} {ds : List (Str × D)} {vs : List (Str × V)} : W.F a → W.g C = some (.ref Ca) → H a = some (.ins Ca dx vs) → DnF K W H ds vs → Dn K W H (.ins C ds) (.ref a)
  | cell {a : Addr} {i : Nat} : W.C[i]? = some a → Dn K W H (.cell i) (.ref a)
  | cls {C : Str} {a : Addr} : W.g C = some (.ref a) → Dn K W H (.cls C) (.ref a)
  | exc0 {a Ca : Addr} {C : Str} : W.F a → W.g C = some (.ref Ca) → H a = some (ExO (.ref Ca) none a) → Dn K W H (.exc C []) (.ref a)
  | exc {a dx Ca : Addr} {C : Str} {ds : List (Str × D)} {vs : List (Str × V)} : W.F a → W.F dx → W.g C = some (.ref Ca) → H a = some (ExO (.ref Ca) (some dx) a) → H dx = some (.xd vs) → DnF K W H ds vs → Dn K W H (.exc C ds) (.ref a)
  | jar {a : Addr} : W.J a → (∀ q, ¬ W.T a q) → Dn K W H .jar (.ref a)
  | v (x : V) : Dn K W H (.v x) x
inductive DnA (K : PySem.W.Frag) (W : Wd) (H : Hp) : List D → List V → Prop
  | nil : DnA K W H [] []
  | cons {d : D} {ds : List D} {x : V} {xs : List V} : Dn K W H d x → DnA K W H ds xs → DnA K W H (d :: ds) (x :: xs)
inductive DnK (K : PySem.W.Frag) (W : Wd) (H : Hp) : List (Key × D) → List (Key × V) → Prop
  | nil : DnK K W H [] []
  | cons {k : Key} {d : D} {ds : List (Key × D)} {x : V} {xs : List (Key × V)} : Dn K W H d x → DnK K W H ds xs → DnK K W H ((k, d) :: ds) ((k, x) :: xs)
inductive DnF (K : PySem.W.Frag) (W : Wd) (H : Hp) : List (Str × D) → List (Str × V) → Prop
  | nil : DnF K W H [] []
  | cons {k : Str} {d : D} {ds : List (Str × D)} {x : V} {xs : List (Str × V)} : Dn K W H d x → DnF K W H ds xs → DnF K W H ((k, d) :: ds) ((k, x) :: xs)
end


structure Le (W : Wd) (H : Hp) (W' : Wd) (H' : Hp) : Prop where
  F : ∀ a, W.F a → W'.F a
  J : ∀ a, W.J a → W'.J a
  k : ∀ a, W.F a → H' a = H a
  C : ∀ (i : Nat) (a : Addr), W.C[i]? = some a → W'.C[i]? = some a
  g : W'.g = W.g
  T : W'.T = W.T

/-- the same world -/
theorem Le.same {W : Wd} {H H' : Hp} (k : ∀ a, W.F a → H' a = H a) : Le W H W H' := ⟨fun _ h => h, fun _ h => h, k, fun _ _ h => h, rfl, rfl⟩

theorem Le.add {W : Wd} {H H' : Hp} {p : Addr} (k : ∀ a, W.F a → H' a = H a) : Le W H (W.add p) H' := ⟨fun _ h => .inl h, fun _ h => h, k, fun _ _ h => h, rfl, rfl⟩

theorem Le.refl (W : Wd) (H : Hp) : Le W H W H := .same fun _ _ => rfl

theorem Le.trans {W1 W2 W3 : Wd} {H1 H2 H3 : Hp} (a : Le W1 H1 W2 H2) (b : Le W2 H2 W3 H3) : Le W1 H1 W3 H3 :=
  ⟨fun x h => b.F x (a.F x h), fun x h => b.J x (a.J x h), fun x h => (b.k x (a.F x h)).trans (a.k x h), fun i x h => b.C i x (a.C i x h), b.g.trans a.g, b.T.trans a.T⟩


section

variable {K : PySem.W.Frag} {W W' : Wd} {H H' : Hp}

theorem Rd.cong {a : Addr} {u : HO} (e : H' a = H a) (h : Rd H a u) : Rd H' a u := by
  unfold Rd at *
  rw [e]
  exact h

theorem SeqT.le (l : Le W H W' H') {a : Addr} {xs : List V} (h : SeqT K W H a xs) : SeqT K W' H' a xs :=
  h.elim (fun q => .inl ⟨l.F a q.1, Rd.cong (l.k a q.1) q.2⟩) .inr

theorem SeqL.le (l : Le W H W' H') {a : Addr} {xs : List V} (h : SeqL K W H a xs) : SeqL K W' H' a xs :=
  h.elim (fun q => .inl ⟨l.F a q.1, Rd.cong (l.k a q.1) q.2⟩) .inr

theorem DicAt.le (l : Le W H W' H') {a : Addr} {xs : List (Key × V)} (h : DicAt H a xs) (f : W.F a) : DicAt H' a xs := ⟨Rd.cong (l.k a f) h.rd⟩

mutual
theorem Dn.le (l : Le W H W' H') : ∀ {d : D} {x : V}, Dn K W H d x → Dn K W' H' d x
  | _, _, .non => .non
  | _, _, .bl b => .bl b
  | _, _, .int b => .int b
  | _, _, .str b => .str b
  | _, _, .tup h1 h2 => .tup (h1.le l) (DnA.le l h2)
  | _, _, .lst h1 h2 h3 => .lst (l.F _ h1) ((l.k _ h1).trans h2) (DnA.le l h3)
  | _, _, .rls h1 h2 => .rls (h1.le l) (DnA.le l h2)
  | _, _, .dic h1 h2 h3 => .dic (l.F _ h1) (h2.le l h1) (DnK.le l h3)
  | _, _, .ins h1 h0 h2 h3 => .ins (l.F _ h1) (by rw [l.g]; exact h0) ((l.k _ h1).trans h2) (DnF.le l h3)
  | _, _, .cell h => .cell (l.C _ _ h)
  | _, _, .cls h => .cls (by rw [l.g]; exact h)
  | _, _, .exc0 h1 h0 h2 => .exc0 (l.F _ h1) (by rw [l.g]; exact h0) ((l.k _ h1).trans h2)
  | _, _, .exc h1 h3 h0 h2 h4 h5 => .exc (l.F _ h1) (l.F _ h3) (by rw [l.g]; exact h0) ((l.k _ h1).trans h2) ((l.k _ h3).trans h4) (DnF.le l h5)
  | _, _, .jar h n => .jar (l.J _ h) (by rw [l.T]; exact n)
  | _, _, .v x => .v x
theorem DnA.le (l : Le W H W' H') : ∀ {d : List D} {x : List V}, DnA K W H d x → DnA K W' H' d x
  | _, _, .nil => .nil
  | _, _, .cons h1 h2 => .cons (Dn.le l h1) (DnA.le l h2)
theorem DnK.le (l : Le W H W' H') : ∀ {d : List (Key × D)} {x : List (Key × V)}, DnK K W H d x → DnK K W' H' d x
  | _, _, .nil => .nil
  | _, _, .cons h1 h2 => .cons (Dn.le l h1) (DnK.le l h2)
theorem DnF.le (l : Le W H W' H') : ∀ {d : List (Str × D)} {x : List (Str × V)}, DnF K W H d x → DnF K W' H' d x
  | _, _, .nil => .nil
  | _, _, .cons h1 h2 => .cons (Dn.le l h1) (DnF.le l h2)
end

theorem DnA.length : ∀ {ds : List D} {xs : List V}, DnA K W H ds xs → ds.length = xs.length
  | _, _, .nil => rfl
  | _, _, .cons _ h => congrArg (· + 1) h.length

theorem DnA.get : ∀ {ds : List D} {xs : List V} {i : Nat} {d : D}, DnA K W H ds xs → ds[i]? = some d → ∃ x, xs[i]? = some x ∧ Dn K W H d x
  | _, _, 0, _, .cons h _, e => ⟨_, rfl, by cases e; exact h⟩
  | _, _, i + 1, _, .cons _ h, e => by
    obtain ⟨x, e1, e2⟩ := h.get (i := i) (by simpa using e)
    exact ⟨x, by simpa using e1, e2⟩

theorem DnA.append : ∀ {ds es : List D} {xs ys : List V}, DnA K W H ds xs → DnA K W H es ys → DnA K W H (ds ++ es) (xs ++ ys)
  | _, _, _, _, .nil, h => h
  | _, _, _, _, .cons h1 h2, h => .cons h1 (h2.append h)

theorem DnA.take : ∀ (n : Nat) {ds : List D} {xs : List V}, DnA K W H ds xs → DnA K W H (ds.take n) (xs.take n)
  | 0, _, _, _ => by simpa using DnA.nil
  | _ + 1, _, _, .nil => by simpa using DnA.nil
  | n + 1, _, _, .cons h1 h2 => .cons h1 (h2.take n)

theorem DnA.drop : ∀ (n : Nat) {ds : List D} {xs : List V}, DnA K W H ds xs → DnA K W H (ds.drop n) (xs.drop n)
  | 0, _, _, h => h
  | _ + 1, _, _, .nil => by simpa using DnA.nil
  | n + 1, _, _, .cons h1 h2 => h2.drop n

theorem DnA.set {d : D} {x : V} (h : Dn K W H d x) : ∀ {ds : List D} {xs : List V} (i : Nat), DnA K W H ds xs → DnA K W H (ds.set i d) (xs.set i x)
  | _, _, _, .nil => by simpa using DnA.nil
  | _, _, 0, .cons _ h2 => .cons h h2
  | _, _, i + 1, .cons h1 h2 => .cons h1 (h2.set h i)

theorem DnA.reverse {ds : List D} {xs : List V} (h : DnA K W H ds xs) : DnA K W H ds.reverse xs.reverse := by
  induction ds generalizing xs with
  | nil => cases h; exact .nil
  | cons d ds ih =>
    cases h with
    | cons h1 h2 =>
      rw [List.reverse_cons, List.reverse_cons]
      exact (ih h2).append (.cons h1 .nil)

theorem DnA.one {d : D} {xs : List V} (h : DnA K W H [d] xs) : ∃ x, xs = [x] ∧ Dn K W H d x := by
  cases h with
  | cons h1 h2 => cases h2; exact ⟨_, rfl, h1⟩

theorem DnA.map_int : ∀ {ns : List Int} {xs : List V}, DnA K W H (ns.map .int) xs → xs = ns.map .int
  | [], _, .nil => rfl
  | n :: ns, _, .cons h1 h2 => by cases h1; rw [h2.map_int]; rfl

theorem DnA.of_int : ∀ (ns : List Int), DnA K W H (ns.map .int) (ns.map .int)
  | [] => .nil
  | n :: ns => .cons (.int n) (DnA.of_int ns)

theorem DnA.map_bl : ∀ {ns : List Bool} {xs : List V}, DnA K W H (ns.map .bl) xs → xs = ns.map .bl
  | [], _, .nil => rfl
  | n :: ns, _, .cons h1 h2 => by cases h1; rw [h2.map_bl]; rfl

theorem DnA.map_str : ∀ {ns : List Str} {xs : List V}, DnA K W H (ns.map .str) xs → xs = ns.map .str
  | [], _, .nil => rfl
  | n :: ns, _, .cons h1 h2 => by cases h1; rw [h2.map_str]; rfl

end


/-- the table of code objects at P: what it tells are code objects of the name q -/
def TabW (W : Wd) (H : Hp) (P : Addr) (q : Str) : Prop := ∃ ps : Array Value, H P = some (.tbl ps) ∧ TriplesOk ps.toList ∧ ∀ (pos : Pos) (cv : Value), codeAmong pos ps.toList = some cv → ∃ c, cv = .ref c ∧ W.F c ∧ H c = some (LamX.CodeO c q)

theorem TabW.le {W W' : Wd} {H H' : Hp} {P : Addr} {q : Str} (h : TabW W H P q) (l : Le W H W' H') (e : H' P = H P) : TabW W' H' P q := by
  obtain ⟨ps, h1, h2, h3⟩ := h
  refine ⟨ps, e.trans h1, h2, fun pos cv hc => ?_⟩
  obtain ⟨c, e1, e2, e3⟩ := h3 pos cv hc
  exact ⟨c, e1, l.F c e2, (l.k c e2).trans e3⟩

def JarAt (W : Wd) (H : Hp) (a : Addr) : Prop := ((∃ q, W.T a q) ∧ ∀ q, W.T a q → TabW W H a q) ∨ ((∀ q, ¬ W.T a q) ∧ ∃ x y z : Int, H a = some (.lst [.int x, .int y, .int z]) ∧ -(2 ^ 40) < y ∧ y < 2 ^ 40)

theorem JarAt.some {W : Wd} {H : Hp} {a : Addr} (h : JarAt W H a) : ∃ o, H a = some o := h.elim (fun ⟨⟨q, hq⟩, z⟩ => let ⟨_, e, _⟩ := z q hq; ⟨_, e⟩) fun ⟨_, _, _, _, e, _⟩ => ⟨_, e⟩

theorem JarAt.le {W W' : Wd} {H H' : Hp} {a : Addr} (h : JarAt W H a) (l : Le W H W' H') (e : H' a = H a) : JarAt W' H' a := by
  unfold JarAt at *
  rw [e, l.T]
  exact h.imp (fun q => ⟨q.1, fun s z => (q.2 s z).le l e⟩) id

theorem JarAt.jar {W : Wd} {H : Hp} {a : Addr} (h : JarAt W H a) (n : ∀ q, ¬ W.T a q) : ∃ x y z : Int, H a = .some (.lst [.int x, .int y, .int z]) ∧ -(2 ^ 40) < y ∧ y < 2 ^ 40 := h.elim (fun q => let ⟨s, z⟩ := q.1; absurd z (n s)) (·.2)

theorem JarAt.tab {W : Wd} {H : Hp} {a : Addr} {q : Str} (h : JarAt W H a) (n : W.T a q) : TabW W H a q := h.elim (fun z => z.2 q n) fun z => absurd n (z.1 q)

structure Al (W : Wd) (H : Hp) : Prop where
  f : ∀ a, W.F a → ∃ o, H a = some o
  j : ∀ a, W.J a → JarAt W H a
  d : ∀ a, W.J a → ¬ W.F a
  c : ∀ a ∈ W.C, ¬ W.F a ∧ ¬ W.J a ∧ ∃ o, H a = some o
  nd : W.C.Nodup
  t : ∀ P q, W.T P q → W.J P

/-- the defs of the laws that make lambdas -/
def lamDefs : List Str := ["_law_right", "_law_alone", "_law_values_right", "_law_case_right", "_law_act", "_law_deed_right", "_law_great_right", "_law_trial_right", "_law_trial_pages", "_law_questions_right", "_law_said", "_law_parts_right"]

/-- their tables of code objects -/
def lamTabs (K : PySem.W.Frag) : List (Addr × Str) := lamDefs.filterMap fun x => (PySem.W.tabIn K x).map fun p => (p.2, x ++ ".<locals>." ++ "<lambda>")

def nodupB : List Addr → Bool
  | [] => true
  | a :: l => !(l.contains a) && nodupB l

/-- the tables at the start -/
def tabsB (K : PySem.W.Frag) : Bool := (lamDefs.all fun x => match PySem.W.tabIn K x with
  | none => true
  | some (_, P) => (K.lookup P).isNone) && nodupB ((lamTabs K).map (·.1))

theorem nodupB_ok : ∀ {l : List (Addr × Str)}, nodupB (l.map (·.1)) = true → ∀ P q q', (P, q) ∈ l → (P, q') ∈ l → q' = q
  | [], _, _, _, _, h, _ => by cases h
  | p :: l, h, P, q, q', h1, h2 => by
    simp only [List.map_cons, nodupB, Bool.and_eq_true, Bool.not_eq_true', List.contains_eq_mem, decide_eq_false_iff_not] at h
    rcases List.mem_cons.mp h1 with e1 | e1 <;> rcases List.mem_cons.mp h2 with e2 | e2
    · rw [← e2] at e1; cases e1; rfl
    · exact absurd (List.mem_map.mpr ⟨_, e2, by rw [← e1]⟩) h.1
    · exact absurd (List.mem_map.mpr ⟨_, e1, by rw [← e2]⟩) h.1
    · exact nodupB_ok h.2 P q q' e1 e2

/-- what a cell holds: an instance; or, if its class is no name of the module, a dict -/
def CellAt (K : PySem.W.Frag) (W : Wd) (H : Hp) (c : Cell) (a : Addr) : Prop :=
  (∃ Ca dx vs, W.g c.cls = some (.ref Ca) ∧ H a = some (.ins Ca dx vs) ∧ DnF K W H c.fs vs) ∨
    (W.g c.cls = none ∧ ∃ kvs vs, c.fs = [(("" : Str), D.dic kvs)] ∧ H a = some (.dK vs) ∧ DnK K W H kvs vs)

theorem CellAt.le {K : PySem.W.Frag} {W W' : Wd} {H H' : Hp} {c : Cell} {a : Addr} (h : CellAt K W H c a) (l : Le W H W' H') (e : H' a = H a) : CellAt K W' H' c a :=
  h.imp (fun ⟨Ca, dx, vs, h1, h2, h3⟩ => ⟨Ca, dx, vs, by rw [l.g]; exact h1, e.trans h2, h3.le l⟩) fun ⟨h0, kvs, vs, h1, h2, h3⟩ => ⟨by rw [l.g]; exact h0, kvs, vs, h1, e.trans h2, h3.le l⟩

theorem CellAt.ins {K : PySem.W.Frag} {W : Wd} {H : Hp} {c : Cell} {a Cz : Addr} (h : CellAt K W H c a) (e : W.g c.cls = some (.ref Cz)) : ∃ Ca dx vs, W.g c.cls = some (.ref Ca) ∧ H a = some (.ins Ca dx vs) ∧ DnF K W H c.fs vs :=
  h.elim id fun ⟨h0, _⟩ => by rw [e] at h0; cases h0

/-- what the cells hold -/
structure Cells (K : PySem.W.Frag) (W : Wd) (μ : Mem) (H : Hp) : Prop where
  len : μ.length = W.C.length
  tab : ∀ P q, (P, q) ∈ lamTabs K → W.T P q ∧ ∀ q', W.T P q' → q' = q
  at_ : ∀ (i : Nat) (c : Cell) (a : Addr), μ[i]? = some c → W.C[i]? = some a → CellAt K W H c a

theorem Cells.keep {K : PySem.W.Frag} {W W' : Wd} {μ : Mem} {H H' : Hp} (c : Cells K W μ H) (l : Le W H W' H') (e : W'.C = W.C) (k : ∀ a ∈ W.C, H' a = H a) : Cells K W' μ H' :=
  ⟨c.len.trans (by rw [e]), fun P q h => by rw [l.T]; exact c.tab P q h, fun i cl a h1 h2 => by
    rw [e] at h2
    exact (c.at_ i cl a h1 h2).le l (k a (List.mem_of_getElem? h2))⟩


/-- what an evaluation may do: freeze new things and own ones (ow), change own ones and jars -/
structure Step (ow : Addr → Prop) (W : Wd) (H : Hp) (W' : Wd) (H' : Hp) : Prop where
  le : Le W H W' H'
  nF : ∀ a, W'.F a → W.F a ∨ H a = none ∨ ow a
  nJ : ∀ a, W'.J a → W.J a ∨ H a = none
  nC : ∀ a, a ∈ W'.C → a ∈ W.C ∨ H a = none
  st : ∀ a o, H a = some o → ¬ W.J a → ¬ a ∈ W.C → ¬ ow a → H' a = some o
  up : ∀ a, H' a = none → H a = none

abbrev no1 : Addr → Prop := fun _ => False

theorem Step.refl (ow : Addr → Prop) (W : Wd) (H : Hp) : Step ow W H W H := ⟨.refl _ _, fun _ h => .inl h, fun _ h => .inl h, fun _ h => .inl h, fun _ _ h _ _ _ => h, fun _ h => h⟩

theorem Step.trans {ow ow1 : Addr → Prop} {W1 W2 W3 : Wd} {H1 H2 H3 : Hp} (a : Step ow W1 H1 W2 H2) (b : Step ow1 W2 H2 W3 H3) (hs : ∀ x, ow1 x → ow x ∨ H1 x = none) : Step ow W1 H1 W3 H3 where
  le := a.le.trans b.le
  nF := fun x h => by
    rcases b.nF x h with q | q | q
    · exact a.nF x q
    · exact .inr (.inl (a.up x q))
    · rcases hs x q with z | z
      · exact .inr (.inr z)
      · exact .inr (.inl z)
  nJ := fun x h => by
    rcases b.nJ x h with q | q
    · exact a.nJ x q
    · exact .inr (a.up x q)
  nC := fun x h => by
    rcases b.nC x h with q | q
    · exact a.nC x q
    · exact .inr (a.up x q)
  st := fun x o h nj nc no => by
    refine b.st x o (a.st x o h nj nc no) (fun q => ?_) (fun q => ?_) (fun q => ?_)
    · rcases a.nJ x q with z | z
      · exact nj z
      · rw [h] at z; cases z
    · rcases a.nC x q with z | z
      · exact nc z
      · rw [h] at z; cases z
    · rcases hs x q with z | z
      · exact no z
      · rw [h] at z; cases z
  up := fun x h => a.up x (b.up x h)


theorem Step.mono {ow ow' : Addr → Prop} {W W' : Wd} {H H' : Hp} (s : Step ow W H W' H') (h : ∀ x, ow x → ow' x) : Step ow' W H W' H' where
  le := s.le
  nF := fun a q => (s.nF a q).imp id (Or.imp id (h a))
  nJ := s.nJ
  nC := s.nC
  st := fun a o e nj nc no => s.st a o e nj nc fun z => no (h a z)
  up := s.up

/-- a value that may be own -/
def Rs (K : PySem.W.Frag) (W : Wd) (H : Hp) : S → V → Prop
  | .own ds, x => ∃ p vs, x = .ref p ∧ H p = some (.lst vs) ∧ DnA K W H ds vs
  | .odic ds, x => ∃ p vs, x = .ref p ∧ H p = some (.dK vs) ∧ DnK K W H ds vs
  | .ldic ds, x => ∃ p vs od, x = .ref p ∧ W.F p ∧ H p = some (.frz od (.dK vs)) ∧ DnK K W H ds vs
  | .oins p C ds, x => ∃ Ca dx vs, x = .ref p ∧ W.g C = some (.ref Ca) ∧ H p = some (.ins Ca dx vs) ∧ DnF K W H ds vs
  | .d d, x => Dn K W H d x

theorem Rs.ow {K : PySem.W.Frag} {W : Wd} {H : Hp} {d : S} {x : V} (h : Rs K W H d x) (n : d.isOwn = true) : ∃ p o, x = .ref p ∧ H p = some o := by
  cases d <;> first | (obtain ⟨p, vs, h1, h2, _⟩ := h; exact ⟨p, _, h1, h2⟩) | (obtain ⟨_, _, vs, h1, _, h2, _⟩ := h; exact ⟨_, _, h1, h2⟩) | cases n

theorem Rs.le {K : PySem.W.Frag} {W W' : Wd} {H H' : Hp} (l : Le W H W' H') {d : S} {x : V} (h : Rs K W H d x) (ho : d.isOwn = true → ∀ p, x = .ref p → H' p = H p) : Rs K W' H' d x := by
  cases d with
  | own ds => obtain ⟨p, vs, h1, h2, h3⟩ := h; exact ⟨p, vs, h1, (ho rfl p h1).trans h2, h3.le l⟩
  | odic ds => obtain ⟨p, vs, h1, h2, h3⟩ := h; exact ⟨p, vs, h1, (ho rfl p h1).trans h2, h3.le l⟩
  | ldic ds => obtain ⟨p, vs, od, h1, h0, h2, h3⟩ := h; exact ⟨p, vs, od, h1, l.F _ h0, (l.k _ h0).trans h2, h3.le l⟩
  | oins p C ds => obtain ⟨Ca, dx, vs, h1, h0, h2, h3⟩ := h; exact ⟨Ca, dx, vs, h1, by rw [l.g]; exact h0, (ho rfl p h1).trans h2, h3.le l⟩
  | d x => exact Dn.le l h


theorem Rs.ldn {K : PySem.W.Frag} {W : Wd} {H : Hp} {ds : List (Key × D)} {x : V} (h : Rs K W H (.ldic ds) x) : Dn K W H (.dic ds) x := by
  obtain ⟨p, vs, od, rfl, h0, h2, h3⟩ := h
  exact .dic h0 ⟨.inr ⟨od, h2⟩⟩ h3

/-- the slots, as data -/
abbrev Sl := List (Option S)

structure Rho where
  sl : Sl
  mm : Mem

def Rho.set (ρ : Rho) (i : Nat) (o : Option S) : Rho := ⟨ρ.sl.set i o, ρ.mm⟩

def Ow (ρ : Rho) (σ : L2.St) (a : Addr) : Prop := ∃ (i : Nat) (d : S), ρ.sl[i]? = some (some d) ∧ d.isOwn = true ∧ σ[i]? = some (some (.ref a))

/-- the entry of a def -/
structure Gx where
  W : Wd
  H : Hp

structure Ok (K : PySem.W.Frag) (G : Gx) (W : Wd) (ρ : Rho) (σ : L2.St) (H : Hp) : Prop where
  len : σ.length = ρ.sl.length
  val : ∀ (i : Nat) (d : S), ρ.sl[i]? = some (some d) → ∃ x, σ[i]? = some (some x) ∧ Rs K W H d x
  frs : ∀ a, Ow ρ σ a → ¬ W.F a ∧ ¬ W.J a ∧ ¬ a ∈ W.C ∧ G.H a = none
  inj : ∀ (i j : Nat) (d e : S) (a : Addr), ρ.sl[i]? = some (some d) → ρ.sl[j]? = some (some e) → d.isOwn = true → e.isOwn = true → σ[i]? = some (some (.ref a)) → σ[j]? = some (some (.ref a)) → i = j
  al : Al W H
  en : Step no1 G.W G.H W H
  mm : Cells K W ρ.mm H

/-- from one state of a frame to another, the slots' values as they were -/
structure Go (K : PySem.W.Frag) (G : Gx) (σ : L2.St) (ρ : Rho) (W : Wd) (H : Hp) (ρ' : Rho) (W' : Wd) (H' : Hp) : Prop where
  ok : Ok K G W' ρ' σ H'
  stp : Step (Ow ρ σ) W H W' H'
  sub : ∀ a, Ow ρ' σ a → Ow ρ σ a

section

variable {K : PySem.W.Frag} {G : Gx} {σ : L2.St} {ρ ρ1 ρ2 : Rho} {W W1 W2 : Wd} {H H1 H2 : Hp}

theorem Go.refl (ok : Ok K G W ρ σ H) : Go K G σ ρ W H ρ W H := ⟨ok, .refl _ _ _, fun _ h => h⟩

theorem Go.trans (a : Go K G σ ρ W H ρ1 W1 H1) (b : Go K G σ ρ1 W1 H1 ρ2 W2 H2) : Go K G σ ρ W H ρ2 W2 H2 :=
  ⟨b.ok, a.stp.trans b.stp fun x h => .inl (a.sub x h), fun x h => a.sub x (b.sub x h)⟩

theorem Ok.here (ok : Ok K G W ρ σ H) {a : Addr} (h : Ow ρ σ a) : ∃ o, H a = some o := by
  obtain ⟨i, d, h1, h2, h3⟩ := h
  obtain ⟨x, e, r⟩ := ok.val i d h1
  rw [h3] at e
  cases e
  obtain ⟨p, o, e1, e2⟩ := r.ow h2
  cases e1
  exact ⟨o, e2⟩

theorem Ok.upG (ok : Ok K G W ρ σ H) {a : Addr} (h : H a = none) : G.H a = none := ok.en.up a h

/-- the heap and the world grow, what is own stays: the same slots -/
theorem Ok.grow (ok : Ok K G W ρ σ H) (s : Step no1 W H W1 H1) (al : Al W1 H1) {μ : Mem} (mm : Cells K W1 μ H1) : Go K G σ ρ W H ⟨ρ.sl, μ⟩ W1 H1 := by
  have nf : ∀ a, Ow ρ σ a → ¬ W1.F a ∧ ¬ W1.J a ∧ ¬ a ∈ W1.C ∧ H1 a = H a := fun a h => by
    obtain ⟨o, ho⟩ := ok.here h
    obtain ⟨f1, f2, f3, f4⟩ := ok.frs a h
    refine ⟨fun q => ?_, fun q => ?_, fun q => ?_, ?_⟩
    · rcases s.nF a q with z | z | z
      · exact f1 z
      · rw [ho] at z; cases z
      · exact z.elim
    · rcases s.nJ a q with z | z
      · exact f2 z
      · rw [ho] at z; cases z
    · rcases s.nC a q with z | z
      · exact f3 z
      · rw [ho] at z; cases z
    · rw [ho]; exact s.st a o ho f2 f3 fun z => z.elim
  have ow : ∀ a, Ow (⟨ρ.sl, μ⟩ : Rho) σ a → Ow ρ σ a := fun _ h => h
  refine ⟨⟨ok.len, fun i d h => ?_, fun a h => ⟨(nf a h).1, (nf a h).2.1, (nf a h).2.2.1, (ok.frs a h).2.2.2⟩, ok.inj, al, ok.en.trans s fun _ h => h.elim, mm⟩, s.mono fun _ h => h.elim, fun _ h => h⟩
  obtain ⟨x, e, r⟩ := ok.val i d h
  exact ⟨x, e, r.le s.le fun ho p hp => (nf p ⟨i, d, h, ho, by rw [e, hp]⟩).2.2.2⟩

/-- .. the cells as they were -/
theorem Ok.grow0 (ok : Ok K G W ρ σ H) (s : Step no1 W H W1 H1) (al : Al W1 H1) (e : W1.C = W.C) (k : ∀ a ∈ W.C, H1 a = H a) : Go K G σ ρ W H ρ W1 H1 :=
  ok.grow s al (ok.mm.keep s.le e k)

/-- a new object -/
theorem step_new {W : Wd} {H : Hp} {p : Addr} {o : HO} (al : Al W H) (h : H p = none) : Step no1 W H W (upd H p o) where
  le := .same fun a q => by
    obtain ⟨u, e⟩ := al.f a q
    exact upd_ne (ne_of_none e h)
  nF := fun _ q => .inl q
  nJ := fun _ q => .inl q
  nC := fun _ q => .inl q
  st := fun a u e _ _ _ => by rw [upd_ne (ne_of_none e h)]; exact e
  up := fun a e => by
    by_cases q : a = p
    · subst q; exact h
    · rw [upd_ne q] at e; exact e

theorem al_new {W : Wd} {H : Hp} {p : Addr} {o : HO} (al : Al W H) (h : H p = none) : Al W (upd H p o) where
  f := fun a q => by
    obtain ⟨u, e⟩ := al.f a q
    exact ⟨u, by rw [upd_ne (ne_of_none e h)]; exact e⟩
  j := fun a q => by
    obtain ⟨u, e⟩ := (al.j a q).some
    exact (al.j a q).le (step_new al h).le (upd_ne (ne_of_none e h))
  d := al.d
  c := fun a q => by
    obtain ⟨h1, h2, u, e⟩ := al.c a q
    exact ⟨h1, h2, u, by rw [upd_ne (ne_of_none e h)]; exact e⟩
  nd := al.nd
  t := al.t

theorem cells_new {W : Wd} {H : Hp} {p : Addr} {o : HO} (al : Al W H) (h : H p = none) : ∀ a ∈ W.C, upd H p o a = H a := fun a q => by
  obtain ⟨_, _, u, e⟩ := al.c a q
  exact upd_ne (ne_of_none e h)

theorem step_frz {W : Wd} {H : Hp} {p : Addr} {o : HO} (al : Al W H) (h : H p = none) : Step no1 W H (W.add p) (upd H p o) where
  le := .add (step_new al h).le.k
  nF := fun a q => q.imp id fun e => .inl (by rw [e]; exact h)
  nJ := fun _ q => .inl q
  nC := fun _ q => .inl q
  st := (step_new al h).st
  up := (step_new al h).up

theorem al_frz {W : Wd} {H : Hp} {p : Addr} {o : HO} (al : Al W H) (h : H p = none) : Al (W.add p) (upd H p o) where
  f := fun a q => q.elim ((al_new al h).f a) fun e => ⟨o, by rw [e]; exact upd_same⟩
  j := fun a q => (al.j a q).le (step_frz (o := o) al h).le (by
    obtain ⟨u, e⟩ := (al.j a q).some
    exact upd_ne (ne_of_none e h))
  d := fun a q z => z.elim (al.d a q) fun e => by
    obtain ⟨u, e'⟩ := (al.j a q).some
    rw [e, h] at e'
    cases e'
  c := fun a q => by
    obtain ⟨h1, h2, u, e⟩ := al.c a q
    refine ⟨fun z => z.elim h1 fun e' => ?_, h2, u, by rw [upd_ne (ne_of_none e h)]; exact e⟩
    rw [e', h] at e
    cases e
  nd := al.nd
  t := al.t

/-- a value that has come behind H0 -/
structure Res (K : PySem.W.Frag) (H0 : Hp) (W : Wd) (H : Hp) (d : S) (x : V) : Prop where
  rs : Rs K W H d x
  fr : d.isOwn = true → ∀ p, x = .ref p → ¬ W.F p ∧ ¬ W.J p ∧ ¬ p ∈ W.C ∧ H0 p = none

theorem Res.of {K : PySem.W.Frag} {H0 : Hp} {W : Wd} {H : Hp} {d : D} {x : V} (h : Dn K W H d x) : Res K H0 W H (.d d) x :=
  ⟨h, fun o => by cases o⟩

theorem Go.freeze {K : PySem.W.Frag} {G : Gx} {σ : L2.St} {ρ ρ1 : Rho} {W W1 : Wd} {H H1 : Hp} {d : S} {x : V} (ok : Ok K G W ρ σ H) (g : Go K G σ ρ W H ρ1 W1 H1) (r : Res K H W1 H1 d x) :
    ∃ W2, Go K G σ ρ W H ρ1 W2 H1 ∧ Dn K W2 H1 d.frz x ∧ Le W1 H1 W2 H1 := by
  cases ho : d.isOwn with
  | false =>
    cases d <;> first | (cases ho; done) | exact ⟨W1, g, r.rs, .refl _ _⟩ | exact ⟨W1, g, r.rs.ldn, .refl _ _⟩
  | true =>
    obtain ⟨p, o, rfl, hp⟩ := r.rs.ow ho
    obtain ⟨nf, nj, nc, h0⟩ := r.fr ho p rfl
    have l : Le W1 H1 (W1.add p) H1 := .add fun _ _ => rfl
    have al : Al (W1.add p) H1 := ⟨fun a q => q.elim (g.ok.al.f a) fun e => ⟨o, by rw [e]; exact hp⟩, fun a q => (g.ok.al.j a q).le l rfl, fun a q z => z.elim (g.ok.al.d a q) fun e => nj (by rw [← e]; exact q), fun a q => ⟨fun z => z.elim (g.ok.al.c a q).1 fun e => nc (by rw [← e]; exact q), (g.ok.al.c a q).2⟩, g.ok.al.nd, g.ok.al.t⟩
    refine ⟨W1.add p, ⟨⟨g.ok.len, fun i e h => ?_, fun a h => ?_, g.ok.inj, al, ?_, g.ok.mm.keep l rfl fun _ _ => rfl⟩, ?_, g.sub⟩, ?_, l⟩
    · obtain ⟨y, e1, e2⟩ := g.ok.val i e h
      exact ⟨y, e1, e2.le l fun _ _ _ => rfl⟩
    · obtain ⟨a1, a2, a4, a3⟩ := g.ok.frs a h
      refine ⟨fun z => z.elim a1 fun e => ?_, a2, a4, a3⟩
      obtain ⟨u, hu⟩ := ok.here (g.sub a h)
      rw [e, h0] at hu
      cases hu
    · exact ⟨g.ok.en.le.trans l, fun a q => q.elim (g.ok.en.nF a) fun e => .inr (.inl (by rw [e]; exact ok.upG h0)), g.ok.en.nJ, g.ok.en.nC, g.ok.en.st, g.ok.en.up⟩
    · exact ⟨g.stp.le.trans l, fun a q => q.elim (g.stp.nF a) fun e => .inr (.inl (by rw [e]; exact h0)), g.stp.nJ, g.stp.nC, g.stp.st, g.stp.up⟩
    · cases d with
      | own ds =>
        obtain ⟨q, vs, e1, e2, e3⟩ := r.rs
        cases e1
        exact .lst (.inr rfl) e2 (e3.le l)
      | odic ds =>
        obtain ⟨q, vs, e1, e2, e3⟩ := r.rs
        cases e1
        exact .dic (.inr rfl) ⟨.inl e2⟩ (e3.le l)
      | oins q C ds =>
        obtain ⟨Ca, dx, vs, e1, e0, e2, e3⟩ := r.rs
        cases e1
        exact .ins (.inr rfl) e0 e2 (e3.le l)
      | _ => cases ho

end

/-- an exception as data: its class, its attributes -/
structure Exn where
  cls : Str
  fs : List (Str × D)

/-- the class that a name tells -/
def Wd.cv (W : Wd) (x : Str) (c : Value) : Prop := W.g x = some c ∨ (W.g x = none ∧ bootBuiltins x = some c)

def ExAt (K : PySem.W.Frag) (W : Wd) (H : Hp) (x : Exn) (c : Value) (dx : Option Addr) : Prop :=
  W.cv x.cls c ∧ ((dx = none ∧ x.fs = []) ∨ ∃ a vs, dx = some a ∧ W.F a ∧ H a = some (.xd vs) ∧ DnF K W H x.fs vs)

abbrev ZK := Exn → Rho → Prop

/-- readings over data -/
abbrev WE := ZK → Rho → (S → Rho → Prop) → Prop

abbrev WT := ZK → Rho → (Bool → Rho → Prop) → Prop

abbrev WA := ZK → Rho → (List D → Rho → Prop) → Prop

structure DEnds where
  nx : Rho → Prop
  rt : S → Mem → Prop
  bk : Rho → Prop
  ct : Rho → Prop
  ex : ZK

abbrev WS := DEnds → Rho → Prop

/-- a def over data -/
abbrev WF := (Exn → Mem → Prop) → List D → Mem → (S → Mem → Prop) → Prop

section

variable (K : PySem.W.Frag) (G : Gx) (T : WX)

def lZ (Z : ZK) (σ : L2.St) (ρ : Rho) (W : Wd) (H : Hp) : Prop := ∀ x ρ' W' H' c dx, Z x ρ' → Go K G σ ρ W H ρ' W' H' → ExAt K W' H' x c dx → T c dx σ H'

def lE (w : WE) : TE := fun σ H Q => ∃ (W : Wd) (ρ : Rho) (R : S → Rho → Prop) (Z : ZK), Ok K G W ρ σ H ∧ w Z ρ R ∧
  (∀ d ρ' W' x H', R d ρ' → Go K G σ ρ W H ρ' W' H' → Res K H W' H' d x → Q x H') ∧ lZ K G T Z σ ρ W H

def lT (w : WT) : TT := fun σ H Q => ∃ (W : Wd) (ρ : Rho) (R : Bool → Rho → Prop) (Z : ZK), Ok K G W ρ σ H ∧ w Z ρ R ∧
  (∀ b ρ' W' H', R b ρ' → Go K G σ ρ W H ρ' W' H' → Q b H') ∧ lZ K G T Z σ ρ W H

def lA (w : WA) : TA := fun σ H Q => ∃ (W : Wd) (ρ : Rho) (R : List D → Rho → Prop) (Z : ZK), Ok K G W ρ σ H ∧ w Z ρ R ∧
  (∀ ds ρ' W' xs H', R ds ρ' → Go K G σ ρ W H ρ' W' H' → DnA K W' H' ds xs → Q xs H') ∧ lZ K G T Z σ ρ W H

/-- a statement: the slots may change -/
def lX (Z : ZK) (W : Wd) (H : Hp) : Prop := ∀ x ρ' W' σ' H' c dx, Z x ρ' → Ok K G W' ρ' σ' H' → Le W H W' H' → ExAt K W' H' x c dx → T c dx σ' H'

def lN (N : Rho → Prop) (P : L2.St → Hp → Prop) (W : Wd) (H : Hp) : Prop := ∀ ρ' W' σ' H', N ρ' → Ok K G W' ρ' σ' H' → Le W H W' H' → P σ' H'

def lR (R : S → Mem → Prop) (Q : VK) (W : Wd) (H : Hp) : Prop := ∀ d ρ' W' σ' x H', R d ρ'.mm → Ok K G W' ρ' σ' H' → Le W H W' H' → Res K G.H W' H' d x → Q x H'

def lS (w : WS) : TS := fun D σ H => ∃ (W : Wd) (ρ : Rho) (E : DEnds), Ok K G W ρ σ H ∧ w E ρ ∧
  lN K G E.nx D.nx W H ∧ lR K G E.rt D.rt W H ∧ lN K G E.bk D.bk W H ∧ lN K G E.ct D.ct W H ∧ lX K G T E.ex W H

end

section

variable {K : PySem.W.Frag} {G : Gx} {T : WX}

theorem lZ.go {Z : ZK} {σ : L2.St} {ρ ρ1 : Rho} {W W1 : Wd} {H H1 : Hp} (z : lZ K G T Z σ ρ W H) (g : Go K G σ ρ W H ρ1 W1 H1) : lZ K G T Z σ ρ1 W1 H1 :=
  fun x ρ' W' H' c dx h g' e => z x ρ' W' H' c dx h (g.trans g') e

theorem Res.up {H0 H1 : Hp} {W : Wd} {H : Hp} {d : S} {x : V} (r : Res K H1 W H d x) (u : ∀ a, H1 a = none → H0 a = none) : Res K H0 W H d x :=
  ⟨r.rs, fun o p e => let ⟨a, b, c, d⟩ := r.fr o p e; ⟨a, b, c, u p d⟩⟩

theorem lN.le {N : Rho → Prop} {P : L2.St → Hp → Prop} {W W1 : Wd} {H H1 : Hp} (h : lN K G N P W H) (l : Le W H W1 H1) : lN K G N P W1 H1 :=
  fun ρ' W' σ' H' n o q => h ρ' W' σ' H' n o (l.trans q)

theorem lR.le {R : S → Mem → Prop} {Q : VK} {W W1 : Wd} {H H1 : Hp} (h : lR K G R Q W H) (l : Le W H W1 H1) : lR K G R Q W1 H1 :=
  fun d ρ' W' σ' x H' n o q => h d ρ' W' σ' x H' n o (l.trans q)

theorem lX.le {Z : ZK} {W W1 : Wd} {H H1 : Hp} (h : lX K G T Z W H) (l : Le W H W1 H1) : lX K G T Z W1 H1 :=
  fun x ρ' W' σ' H' c dx n o q => h x ρ' W' σ' H' c dx n o (l.trans q)

theorem lX.z {Z : ZK} {W : Wd} {H : Hp} (h : lX K G T Z W H) (σ : L2.St) (ρ : Rho) : lZ K G T Z σ ρ W H :=
  fun x ρ' W' H' c dx n g e => h x ρ' W' σ H' c dx n g.ok g.stp.le e

end

/-! ### the judgements -/

def DE (X : Cx) (G : Gx) (T : WX) (e : Expr) (w : WE) : Prop := PE X e (lE X.K G T w)

def DT (X : Cx) (G : Gx) (T : WX) (e : Expr) (w : WT) : Prop := PT X e (lT X.K G T w)

def DA (X : Cx) (G : Gx) (T : WX) (es : List Expr) (w : WA) : Prop := PA X es (lA X.K G T w)

def DS (X : Cx) (G : Gx) (T : WX) (st : Stmt) (w : WS) : Prop := PS X st (lS X.K G T w)

def DSs (X : Cx) (G : Gx) (T : WX) (st : List Stmt) (w : WS) : Prop := PSs X st (lS X.K G T w)

theorem pe_weak {X : Cx} {e : Expr} {t t' : TE} (h : PE X e t) (i : ∀ σ H Q, t' σ H Q → t σ H Q) : PE X e t' := ⟨fun p s σ H Q I q => h.run p s σ H Q I (i σ H Q q)⟩

theorem pt_weak {X : Cx} {e : Expr} {t t' : TT} (h : PT X e t) (i : ∀ σ H Q, t' σ H Q → t σ H Q) : PT X e t' := ⟨fun p s σ H Q I q => h.run p s σ H Q I (i σ H Q q)⟩

theorem pw_weak {X : Cx} {e : Expr} {t t' : TT} (h : PW X e t) (i : ∀ σ H Q, t' σ H Q → t σ H Q) : PW X e t' := ⟨fun wh p s σ H Q I q => h.run wh p s σ H Q I (i σ H Q q)⟩

theorem pa_weak {X : Cx} {e : List Expr} {t t' : TA} (h : PA X e t) (i : ∀ σ H Q, t' σ H Q → t σ H Q) : PA X e t' := ⟨fun po p s σ H Q I q => h.run po p s σ H Q I (i σ H Q q)⟩

theorem ps_weak {X : Cx} {e : Stmt} {t t' : TS} (h : PS X e t) (i : ∀ D σ H, t' D σ H → t D σ H) : PS X e t' := ⟨fun p s σ H D I q => h.run p s σ H D I (i D σ H q)⟩

theorem pss_weak {X : Cx} {e : List Stmt} {t t' : TS} (h : PSs X e t) (i : ∀ D σ H, t' D σ H → t D σ H) : PSs X e t' := ⟨fun p s σ H D I q => h.run p s σ H D I (i D σ H q)⟩

end DL







/-! DL1: rules for expressions and tests. -/

namespace DL

open PySem PySem.Spec L2

section

variable {K : PySem.W.Frag} {G : Gx} {T : WX} {σ : L2.St} {ρ ρ1 : Rho} {W W1 : Wd} {H H1 : Hp}

/-! ### slots -/

theorem set_get {α : Type} {l : List α} {i j : Nat} {a b : α} (h : (l.set i a)[j]? = some b) : (i = j ∧ a = b) ∨ (i ≠ j ∧ l[j]? = some b) := by
  rw [List.getElem?_set] at h
  split at h
  · split at h
    · cases h; exact .inl ⟨‹_›, rfl⟩
    · cases h
  · exact .inr ⟨‹_›, h⟩

/-- slot i, own so far, is frozen -/
theorem Ok.freezeSlot (ok : Ok K G W ρ σ H) {i : Nat} {d : S} (h : ρ.sl[i]? = some (some d)) : ∃ x W2, σ[i]? = some (some x) ∧ Go K G σ ρ W H (if d.isOwn = true then ρ.set i (some (.d d.frz)) else ρ) W2 H ∧ Dn K W2 H d.frz x := by
  obtain ⟨x, e, r⟩ := ok.val i d h
  cases ho : d.isOwn with
  | false =>
    cases d <;> first | (cases ho; done) | exact ⟨x, W, e, .refl ok, r⟩ | exact ⟨x, W, e, .refl ok, r.ldn⟩
  | true =>
    obtain ⟨p, o, rfl, hp⟩ := r.ow ho
    have hO : Ow ρ σ p := ⟨i, d, h, ho, e⟩
    obtain ⟨nf, nj, nc, h0⟩ := ok.frs p hO
    have l : Le W H (W.add p) H := .add fun _ _ => rfl
    have al : Al (W.add p) H := ⟨fun a q => q.elim (ok.al.f a) fun e => ⟨o, by rw [e]; exact hp⟩, fun a q => (ok.al.j a q).le l rfl, fun a q z => z.elim (ok.al.d a q) fun e => nj (by rw [← e]; exact q), fun a q => ⟨fun z => z.elim (ok.al.c a q).1 fun e => nc (by rw [← e]; exact q), (ok.al.c a q).2⟩, ok.al.nd, ok.al.t⟩
    have hd : Dn K (W.add p) H d.frz (.ref p) := by
      cases d with
      | own ds =>
        obtain ⟨q, vs, e1, e2, e3⟩ := r
        cases e1
        exact .lst (.inr rfl) e2 (e3.le l)
      | odic ds =>
        obtain ⟨q, vs, e1, e2, e3⟩ := r
        cases e1
        exact .dic (.inr rfl) ⟨.inl e2⟩ (e3.le l)
      | oins q C ds =>
        obtain ⟨Ca, dx, vs, e1, e0, e2, e3⟩ := r
        cases e1
        exact .ins (.inr rfl) e0 e2 (e3.le l)
      | _ => cases ho
    have sub : ∀ a, Ow (ρ.set i (some (.d d.frz))) σ a → Ow ρ σ a ∧ a ≠ p := fun a ⟨j, f, f1, f2, f3⟩ => by
      rcases set_get f1 with ⟨z1, z2⟩ | ⟨z1, z2⟩
      · cases z2; cases f2
      · refine ⟨⟨j, f, z2, f2, f3⟩, fun q => ?_⟩
        subst q
        exact z1 (ok.inj i j d f a h z2 ho f2 e f3)
    refine ⟨.ref p, W.add p, e, ?_, hd⟩
    rw [if_pos rfl]
    refine ⟨⟨ok.len.trans List.length_set.symm, fun j f hj => ?_, fun a hA => ?_, fun a b f f' c h1 h2 o1 o2 => ?_, al, ?_, ok.mm.keep l rfl fun _ _ => rfl⟩, ?_, fun a h => (sub a h).1⟩
    · rcases set_get hj with ⟨z1, z2⟩ | ⟨z1, z2⟩
      · cases z2; subst z1; exact ⟨_, e, hd⟩
      · obtain ⟨y, e1, e2⟩ := ok.val j f z2
        exact ⟨y, e1, e2.le l fun _ _ _ => rfl⟩
    · obtain ⟨hA, hne⟩ := sub a hA
      obtain ⟨a1, a2, a4, a3⟩ := ok.frs a hA
      exact ⟨fun z => z.elim a1 hne, a2, a4, a3⟩
    · rcases set_get h1 with ⟨z1, z2⟩ | ⟨z1, z2⟩
      · cases z2; cases o1
      · rcases set_get h2 with ⟨y1, y2⟩ | ⟨y1, y2⟩
        · cases y2; cases o2
        · exact ok.inj a b f f' c z2 y2 o1 o2
    · exact ⟨ok.en.le.trans l, fun a q => q.elim (ok.en.nF a) fun e => .inr (.inl (by rw [e]; exact h0)), ok.en.nJ, ok.en.nC, ok.en.st, ok.en.up⟩
    · exact ⟨l, fun a q => q.elim .inl fun e => .inr (.inr (by rw [e]; exact hO)), fun _ q => .inl q, fun _ q => .inl q, fun _ _ e _ _ _ => e, fun _ e => e⟩

def wVar (i : Nat) : WE := fun _ ρ R => match ρ.sl[i]? with
  | some (some d) => R (.d d.frz) (if d.isOwn = true then ρ.set i (some (.d d.frz)) else ρ)
  | _ => False

theorem lE_var {i : Nat} {Q : VK} (h : lE K G T (wVar i) σ H Q) : tVar i σ H Q := by
  obtain ⟨W, ρ, R, Z, ok, h, hR, _⟩ := h
  unfold wVar at h
  split at h
  · rename_i d e
    obtain ⟨x, W2, e1, g, hd⟩ := ok.freezeSlot e
    exact ⟨x, e1, hR _ _ W2 x H h g (.of hd)⟩
  · exact h.elim

end

section

variable {X : Cx} {G : Gx} {T : WX} {e a b c : Expr} {w wa wb wc : WE} {pos p : Pos}

theorem de_var (i : Nat) {x : Str} (hN : X.N[i]? = some x := by rfl) (hv : Vis X.env.scope x := by first | exact Or.inl rfl | exact Or.inr (Or.inl rfl) | exact Or.inr (Or.inr rfl)) (hd : (x == ("__debug__" : Str)) = false := by decide)
    (hcd : (x == ("__classdict__" : Str)) = false := by decide) : DE X G T (.Name x pos) (wVar i) :=
  pe_weak (pv i hN hv hd hcd) fun σ H Q h => lE_var h

def wC (d : D) : WE := fun _ ρ R => R (.d d) ρ

theorem de_const {d : D} {x : V} (h : PE X e (tC x)) (hd : ∀ W H, Dn X.K W H d x) : DE X G T e (wC d) :=
  pe_weak h fun σ H Q ⟨W, ρ, R, Z, ok, h, hR, _⟩ => hR _ _ W x H h (.refl ok) (.of (hd W H))

theorem de_int {i j} : DE X G T (.Constant (.int i) j pos) (wC (.int i)) := de_const pe_int fun _ _ => .int i

theorem de_bl {i j} : DE X G T (.Constant (.bool i) j pos) (wC (.bl i)) := de_const pe_bl fun _ _ => .bl i

theorem de_non {j} : DE X G T (.Constant .none j pos) (wC .non) := de_const pe_non fun _ _ => .non

theorem de_str {i j} : DE X G T (.Constant (.str i) j pos) (wC (.str i)) := de_const pe_str fun _ _ => .str i

/-- an int, a text or a bool of the module's top -/
theorem de_gint {x : Str} {i : Int} {t : Tok} (hg : Gl X x) (hm : X.mg x = some (.int i t)) (hd : (x == ("__debug__" : Str)) = false := by decide) : DE X G T (.Name x pos) (wC (.int i)) :=
  de_const (pe_glob (v := .int i) hg hm ⟨t, rfl⟩ hd) fun _ _ => .int i

theorem de_gstr {x : Str} {i : Str} {t : Tok} (hg : Gl X x) (hm : X.mg x = some (.str i t)) (hd : (x == ("__debug__" : Str)) = false := by decide) : DE X G T (.Name x pos) (wC (.str i)) :=
  de_const (pe_glob (v := .str i) hg hm ⟨t, rfl⟩ hd) fun _ _ => .str i

/-- a builtin class -/
theorem de_bty {x : Str} {n : String} (hg : Gl X x) (hm : X.mg x = none) (hv : bootBuiltins x = some (.type n)) (hn : x ≠ "__name__" := by decide) (hd : (x == ("__debug__" : Str)) = false := by decide) : DE X G T (.Name x pos) (wC (.v (.ty n))) :=
  de_const (pe_bltn (v := .ty n) hg hm hv rfl hn hd) fun _ _ => .v _


/-! ### two expressions -/

def wBin (f : D → D → (S → Prop) → Prop) (wa wb : WE) : WE := fun Z ρ R => wa Z ρ fun x ρ1 => wb Z ρ1 fun y ρ2 => f x.frz y.frz fun z => R z ρ2

/-- an operation on values, over data -/
def OpD (K : PySem.W.Frag) (r : R2) (f : D → D → (S → Prop) → Prop) : Prop :=
  ∀ (G : Gx) (W : Wd) (ρ : Rho) (σ : L2.St) (H : Hp) (d e : D) (x y : V) (R : S → Prop) (Q : VK), Ok K G W ρ σ H → Dn K W H d x → Dn K W H e y → f d e R →
    (∀ z W' v H', R z → Go K G σ ρ W H ρ W' H' → Res K H W' H' z v → Q v H') → r x y H Q

/-- evaluate a, freeze -/
theorem lE_then {K : PySem.W.Frag} {σ : L2.St} {ρ : Rho} {W : Wd} {H : Hp} {wa : WE} {Z : ZK} {R : D → Rho → Prop} {Q : VK} (ok : Ok K G W ρ σ H) (h : wa Z ρ fun x ρ1 => R x.frz ρ1) (hZ : lZ K G T Z σ ρ W H)
    (hq : ∀ d ρ1 W1 x H1, R d ρ1 → Go K G σ ρ W H ρ1 W1 H1 → Dn K W1 H1 d x → Q x H1) : lE K G T wa σ H Q :=
  ⟨W, ρ, _, Z, ok, h, fun d ρ1 W1 x H1 hr g r => by
    obtain ⟨W2, g2, hd, l⟩ := g.freeze ok r
    exact hq _ _ _ _ _ hr g2 hd, hZ⟩

theorem lE_bin {r : R2} {f : D → D → (S → Prop) → Prop} (ho : OpD X.K r f) {σ : L2.St} {H : Hp} {Q : VK} (h : lE X.K G T (wBin f wa wb) σ H Q) : tOp r (lE X.K G T wa) (lE X.K G T wb) σ H Q := by
  obtain ⟨W, ρ, R, Z, ok, h, hR, hZ⟩ := h
  refine lE_then (R := fun x ρ1 => wb Z ρ1 fun y ρ2 => f x y.frz fun z => R z ρ2) ok h hZ fun d ρ1 W1 x H1 h1 g1 d1 => ?_
  refine lE_then (R := fun y ρ2 => f d y fun z => R z ρ2) g1.ok h1 (hZ.go g1) fun e ρ2 W2 y H2 h2 g2 d2 => ?_
  refine ho G W2 ρ2 σ H2 d e x y _ Q g2.ok (d1.le g2.stp.le) d2 h2 fun z W' v H' hz g3 r3 => ?_
  exact hR z ρ2 W' v H' hz ((g1.trans g2).trans g3) (r3.up fun a q => (g1.trans g2).stp.up a q)

theorem de_op {op : Operator} {r : R2} {f : D → D → (S → Prop) → Prop} (hr : OpR X (binaryOp op) r) (ho : OpD X.K r f) (ha : DE X G T a wa) (hb : DE X G T b wb) : DE X G T (.BinOp a op b pos) (wBin f wa wb) :=
  pe_weak (pe_op hr ha hb) fun _ _ _ h => lE_bin ho h

theorem de_cmp {op : CmpOp} {r : R2} {f : D → D → (S → Prop) → Prop} (hr : OpR X (compareOp op) r) (ho : OpD X.K r f) (ha : DE X G T a wa) (hb : DE X G T b wb) (hm : behindInMarks op b = false) : DE X G T (.Compare a [op] [b] pos) (wBin f wa wb) :=
  pe_weak (pe_cmpR hr ha hb hm) fun _ _ _ h => lE_bin ho h

/-! ### tests -/

def S.isB (d : S) (R : Bool → Prop) : Prop := match d with
  | .d (.bl b) => R b
  | _ => False

theorem S.isB_of {d : S} {R : Bool → Prop} (h : d.isB R) : ∃ b, d = .d (.bl b) ∧ R b := by
  unfold S.isB at h
  split at h
  · exact ⟨_, rfl, h⟩
  · exact h.elim

def wB (w : WE) : WT := fun Z ρ R => w Z ρ fun d ρ' => d.isB fun b => R b ρ'

theorem lT_B {K : PySem.W.Frag} {σ : L2.St} {H : Hp} {Q : Bool → Hp → Prop} {t : TE} (ht : ∀ Q, lE K G T w σ H Q → t σ H Q) (h : lT K G T (wB w) σ H Q) : tTest t σ H Q := by
  obtain ⟨W, ρ, R, Z, ok, h, hR, hZ⟩ := h
  refine ht _ ⟨W, ρ, _, Z, ok, h, fun d ρ' W' x H' hb g r => ?_, hZ⟩
  obtain ⟨k, rfl, hb⟩ := S.isB_of hb
  have q : Dn K W' H' (.bl k) x := r.rs
  cases q
  exact ⟨k, rfl, hR _ _ _ _ hb g⟩

theorem dt_val (h : DE X G T e w) (he : ∀ whole, isTrue e X.env whole = (do let v ← whole; standAt e.pos; holding [v] (truthy v)) := by intro _; rfl) : DT X G T e (wB w) :=
  pt_weak (pt_val h he) fun _ _ _ h => lT_B (fun _ q => q) h

theorem dt_cmp {op : CmpOp} {r : R2} {f : D → D → (S → Prop) → Prop} (hr : OpR X (compareOp op) r) (ho : OpD X.K r f) (ha : DE X G T a wa) (hb : DE X G T b wb) (hm : behindInMarks op b = false) : DT X G T (.Compare a [op] [b] pos) (wB (wBin f wa wb)) :=
  pt_weak (pt_cmpR hr ha hb hm) fun _ _ _ h => lT_B (fun _ q => lE_bin ho q) h

/-- a op b op' c -/
def wChain (f f' : D → D → (S → Prop) → Prop) (wa wb wc : WE) : WE := fun Z ρ R => wa Z ρ fun x ρ1 => wb Z ρ1 fun y ρ2 => f x.frz y.frz fun z => z.isB fun k =>
  if k = true then wc Z ρ2 fun u ρ3 => f' y.frz u.frz fun z => R z ρ3 else R (.d (.bl false)) ρ2

theorem lE_chain {r r' : R2} {f f' : D → D → (S → Prop) → Prop} (ho : OpD X.K r f) (ho' : OpD X.K r' f') {σ : L2.St} {H : Hp} {Q : VK} (h : lE X.K G T (wChain f f' wa wb wc) σ H Q) : tChain r r' (lE X.K G T wa) (lE X.K G T wb) (lE X.K G T wc) σ H Q := by
  obtain ⟨W, ρ, R, Z, ok, h, hR, hZ⟩ := h
  refine lE_then (R := fun x ρ1 => wb Z ρ1 fun y ρ2 => f x y.frz fun z => z.isB fun k => if k = true then wc Z ρ2 fun u ρ3 => f' y.frz u.frz fun z => R z ρ3 else R (.d (.bl false)) ρ2) ok h hZ fun d ρ1 W1 x H1 h1 g1 d1 => ?_
  refine lE_then (R := fun y ρ2 => f d y fun z => z.isB fun k => if k = true then wc Z ρ2 fun u ρ3 => f' y u.frz fun z => R z ρ3 else R (.d (.bl false)) ρ2) g1.ok h1 (hZ.go g1) fun e ρ2 W2 y H2 h2 g2 d2 => ?_
  have g12 := g1.trans g2
  refine ho G W2 ρ2 σ H2 d e x y _ _ g2.ok (d1.le g2.stp.le) d2 h2 fun z W' v H' hz g3 r3 => ?_
  obtain ⟨k, rfl, hz⟩ := S.isB_of hz
  have q : Dn X.K W' H' (.bl k) v := r3.rs
  cases q
  have g13 := g12.trans g3
  refine ⟨k, rfl, ?_⟩
  cases k with
  | false => exact hR _ _ _ _ _ hz g13 (.of (.bl false))
  | true =>
    simp only [if_true] at hz ⊢
    refine lE_then (R := fun u ρ3 => f' e u fun z => R z ρ3) g3.ok hz (hZ.go g13) fun u ρ3 W3 y3 H3 h3 g4 d3 => ?_
    refine ho' G W3 ρ3 σ H3 e u y y3 _ Q g4.ok ((d2.le g3.stp.le).le g4.stp.le) d3 h3 fun z W5 v5 H5 hz5 g5 r5 => ?_
    exact hR z ρ3 W5 v5 H5 hz5 ((g13.trans g4).trans g5) (r5.up fun a q => (g13.trans g4).stp.up a q)

theorem dt_chain {op op' : CmpOp} {r r' : R2} {f f' : D → D → (S → Prop) → Prop} (hr : OpR X (compareOp op) r) (hr' : OpR X (compareOp op') r') (ho : OpD X.K r f) (ho' : OpD X.K r' f') (ha : DE X G T a wa) (hb : DE X G T b wb) (hc : DE X G T c wc)
    (hm : lastMarks [op, op'] [b, c] = false := by with_unfolding_all rfl) : DT X G T (.Compare a [op, op'] [b, c] pos) (wB (wChain f f' wa wb wc)) :=
  pt_weak (pt_chain hr hr' ha hb hc hm) fun _ _ _ h => lT_B (fun _ q => lE_chain ho ho' q) h

/-! ### and, or, not -/

def DW (X : Cx) (G : Gx) (T : WX) (e : Expr) (w : WT) : Prop := PW X e (lT X.K G T w)

variable {t u v' : WT} {rest : List Expr}

def wAnd (t u : WT) : WT := fun Z ρ R => t Z ρ fun c ρ1 => if c = true then u Z ρ1 R else R false ρ1

def wOr (t u : WT) : WT := fun Z ρ R => t Z ρ fun c ρ1 => if c = true then R true ρ1 else u Z ρ1 R

def wNot (t : WT) : WT := fun Z ρ R => t Z ρ fun c ρ1 => R (!c) ρ1

theorem DW.pt (h : DW X G T e t) : DT X G T e t := PW.pt h

theorem dw_and1 (h : DT X G T a t) : DW X G T (.BoolOp .And [a] pos) t := pw_and1 h

theorem dw_or1 (h : DT X G T a t) : DW X G T (.BoolOp .Or [a] pos) t := pw_or1 h

theorem lT_then {K : PySem.W.Frag} {σ : L2.St} {ρ : Rho} {W : Wd} {H : Hp} {Z : ZK} {R : Bool → Rho → Prop} {Q : Bool → Hp → Prop} (ok : Ok K G W ρ σ H) (h : t Z ρ R) (hZ : lZ K G T Z σ ρ W H)
    (hq : ∀ d ρ1 W1 H1, R d ρ1 → Go K G σ ρ W H ρ1 W1 H1 → Q d H1) : lT K G T t σ H Q := ⟨W, ρ, R, Z, ok, h, hq, hZ⟩

theorem dw_and (ha : DT X G T a t) (hb : DW X G T (.BoolOp .And (b :: rest) pos) u) : DW X G T (.BoolOp .And (a :: b :: rest) pos) (wAnd t u) :=
  pw_weak (pw_and ha hb) fun σ H Q ⟨W, ρ, R, Z, ok, h, hR, hZ⟩ => lT_then ok h hZ fun c ρ1 W1 H1 hc g => by
    cases c with
    | true => exact ⟨W1, ρ1, R, Z, g.ok, hc, fun b ρ2 W2 H2 h2 g2 => hR b ρ2 W2 H2 h2 (g.trans g2), hZ.go g⟩
    | false => exact hR _ _ _ _ hc g

theorem dw_or (ha : DT X G T a t) (hb : DW X G T (.BoolOp .Or (b :: rest) pos) u) : DW X G T (.BoolOp .Or (a :: b :: rest) pos) (wOr t u) :=
  pw_weak (pw_or ha hb) fun σ H Q ⟨W, ρ, R, Z, ok, h, hR, hZ⟩ => lT_then ok h hZ fun c ρ1 W1 H1 hc g => by
    cases c with
    | false => exact ⟨W1, ρ1, R, Z, g.ok, hc, fun b ρ2 W2 H2 h2 g2 => hR b ρ2 W2 H2 h2 (g.trans g2), hZ.go g⟩
    | true => exact hR _ _ _ _ hc g

theorem dt_not (ha : DT X G T a t) : DT X G T (.UnaryOp .Not a pos) (wNot t) :=
  pt_weak (pt_not ha) fun σ H Q ⟨W, ρ, R, Z, ok, h, hR, hZ⟩ => lT_then ok h hZ fun c ρ1 W1 H1 hc g => hR _ _ _ _ hc g

/-- .. as values -/
def wAndV (wa wb : WE) : WE := fun Z ρ R => wa Z ρ fun x ρ1 => x.isB fun c => if c = true then wb Z ρ1 R else R (.d (.bl false)) ρ1

def wOrV (wa wb : WE) : WE := fun Z ρ R => wa Z ρ fun x ρ1 => x.isB fun c => if c = true then R (.d (.bl true)) ρ1 else wb Z ρ1 R

def wNotV (wa : WE) : WE := fun Z ρ R => wa Z ρ fun x ρ1 => x.isB fun c => R (.d (.bl (!c))) ρ1

theorem de_one {op} (h : DE X G T a wa) : DE X G T (.BoolOp op [a] pos) wa := pe_one h

theorem lE_bl {K : PySem.W.Frag} {σ : L2.St} {ρ : Rho} {W : Wd} {H : Hp} {Z : ZK} {R : Bool → Rho → Prop} {Q : Bool → Hp → Prop} (ok : Ok K G W ρ σ H) (h : wa Z ρ fun x ρ1 => x.isB fun c => R c ρ1) (hZ : lZ K G T Z σ ρ W H)
    (hq : ∀ c ρ1 W1 H1, R c ρ1 → Go K G σ ρ W H ρ1 W1 H1 → Q c H1) : lE K G T wa σ H fun x H1 => ∃ c, x = .bl c ∧ Q c H1 :=
  ⟨W, ρ, _, Z, ok, h, fun d ρ1 W1 x H1 hr g r => by
    obtain ⟨k, rfl, hr⟩ := S.isB_of hr
    have q : Dn K W1 H1 (.bl k) x := r.rs
    cases q
    exact ⟨k, rfl, hq _ _ _ _ hr g⟩, hZ⟩

theorem lE_on {K : PySem.W.Frag} {σ : L2.St} {ρ ρ1 : Rho} {W W1 : Wd} {H H1 : Hp} {Z : ZK} {R : S → Rho → Prop} {Q : VK} (g : Go K G σ ρ W H ρ1 W1 H1) (h : w Z ρ1 R) (hR : ∀ d ρ' W' x H', R d ρ' → Go K G σ ρ W H ρ' W' H' → Res K H W' H' d x → Q x H')
    (hZ : lZ K G T Z σ ρ W H) : lE K G T w σ H1 Q :=
  ⟨W1, ρ1, R, Z, g.ok, h, fun d ρ2 W2 x H2 h2 g2 r => hR d ρ2 W2 x H2 h2 (g.trans g2) (r.up g.stp.up), hZ.go g⟩

theorem de_and (ha : DE X G T a wa) (hb : DE X G T (.BoolOp .And (b :: rest) pos) wb) : DE X G T (.BoolOp .And (a :: b :: rest) pos) (wAndV wa wb) :=
  pe_weak (pe_and ha hb) fun σ H Q ⟨W, ρ, R, Z, ok, h, hR, hZ⟩ => lE_bl ok h hZ fun c ρ1 W1 H1 hc g => by
    cases c with
    | true => exact lE_on g hc hR hZ
    | false => exact hR _ _ _ _ _ hc g (.of (.bl false))

theorem de_not (ha : DE X G T a wa) : DE X G T (.UnaryOp .Not a pos) (wNotV wa) :=
  pe_weak (pe_not ha) fun σ H Q ⟨W, ρ, R, Z, ok, h, hR, hZ⟩ => lE_bl ok h hZ fun c ρ1 W1 H1 hc g => hR _ _ _ _ _ hc g (.of (.bl _))

/-- a if t else b -/
def wIfE (t : WT) (wa wb : WE) : WE := fun Z ρ R => t Z ρ fun c ρ1 => if c = true then wa Z ρ1 R else wb Z ρ1 R

theorem de_if {c : Expr} (hc : DT X G T c t) (ha : DE X G T a wa) (hb : DE X G T b wb) : DE X G T (.IfExp c a b pos) (wIfE t wa wb) :=
  pe_weak (pe_ifExp hc ha hb) fun σ H Q ⟨W, ρ, R, Z, ok, h, hR, hZ⟩ => lT_then ok h hZ fun c ρ1 W1 H1 hc g => by
    cases c with
    | true => exact lE_on g hc hR hZ
    | false => exact lE_on g hc hR hZ

/-- one operand -/
def wUn (f : D → (S → Prop) → Prop) (wa : WE) : WE := fun Z ρ R => wa Z ρ fun x ρ1 => f x.frz fun z => R z ρ1

def UnD (K : PySem.W.Frag) (r : V → Hp → VK → Prop) (f : D → (S → Prop) → Prop) : Prop :=
  ∀ (G : Gx) (W : Wd) (ρ : Rho) (σ : L2.St) (H : Hp) (d : D) (x : V) (R : S → Prop) (Q : VK), Ok K G W ρ σ H → Dn K W H d x → f d R →
    (∀ z W' v H', R z → Go K G σ ρ W H ρ W' H' → Res K H W' H' z v → Q v H') → r x H Q

theorem lE_un {K : PySem.W.Frag} {r : V → Hp → VK → Prop} {f : D → (S → Prop) → Prop} (ho : UnD K r f) {σ : L2.St} {H : Hp} {Q : VK} (h : lE K G T (wUn f wa) σ H Q) : lE K G T wa σ H fun x H1 => r x H1 Q := by
  obtain ⟨W, ρ, R, Z, ok, h, hR, hZ⟩ := h
  refine lE_then (R := fun x ρ1 => f x fun z => R z ρ1) ok h hZ fun d ρ1 W1 x H1 h1 g1 d1 => ?_
  exact ho G W1 ρ1 σ H1 d x _ Q g1.ok d1 h1 fun z W' v H' hz g r => hR z ρ1 W' v H' hz (g1.trans g) (r.up g1.stp.up)

def fNeg (d : D) (R : S → Prop) : Prop := match d with
  | .int i => R (.d (.int (-i)))
  | _ => False

theorem ud_neg {K : PySem.W.Frag} : UnD K (rU fun i => .int (-i)) fNeg := by
  intro G W ρ σ H d x R Q ok h f k
  cases h <;> first | exact f.elim | skip
  exact ⟨_, rfl, k _ _ _ _ f (.refl ok) (.of (.int _))⟩

/-! ### argument lists, displays -/

def wNil : WA := fun _ ρ R => R [] ρ

def wCons (w : WE) (u : WA) : WA := fun Z ρ R => w Z ρ fun x ρ1 => u Z ρ1 fun xs ρ2 => R (x.frz :: xs) ρ2

theorem da_nil : DA X G T [] wNil := pa_weak pa_nil fun σ H Q ⟨W, ρ, R, Z, ok, h, hR, hZ⟩ => hR _ _ _ _ _ h (.refl ok) .nil

theorem da_cons {es : List Expr} {u : WA} (ha : DE X G T a wa) (hr : DA X G T es u) (hs : starEach (a :: es) X.env = (false, eval a X.env) :: starEach es X.env := by rfl) : DA X G T (a :: es) (wCons wa u) :=
  pa_weak (pa_cons ha hr hs) fun σ H Q ⟨W, ρ, R, Z, ok, h, hR, hZ⟩ => by
    refine lE_then (R := fun x ρ1 => u Z ρ1 fun xs ρ2 => R (x :: xs) ρ2) ok h hZ fun d ρ1 W1 x H1 h1 g1 d1 => ?_
    exact ⟨W1, ρ1, _, Z, g1.ok, h1, fun ds ρ2 W2 xs H2 h2 g2 d2 => hR _ _ _ _ _ h2 (g1.trans g2) (.cons (d1.le g2.stp.le) d2), hZ.go g1⟩

def wTup (u : WA) : WE := fun Z ρ R => u Z ρ fun ds ρ1 => ds.length ≤ sizeLine ∧ R (.d (.tup ds)) ρ1

def wLst (u : WA) : WE := fun Z ρ R => u Z ρ fun ds ρ1 => ds.length ≤ sizeLine ∧ R (.own ds) ρ1

/-- a frozen new object -/
theorem Go.newF {K : PySem.W.Frag} {σ : L2.St} {ρ : Rho} {W : Wd} {H : Hp} {p : Addr} {o : HO} (ok : Ok K G W ρ σ H) (hp : H p = none) : Go K G σ ρ W H ρ (W.add p) (upd H p o) :=
  ok.grow0 (step_frz ok.al hp) (al_frz ok.al hp) rfl (cells_new ok.al hp)

theorem Go.new {K : PySem.W.Frag} {σ : L2.St} {ρ : Rho} {W : Wd} {H : Hp} {p : Addr} {o : HO} (ok : Ok K G W ρ σ H) (hp : H p = none) : Go K G σ ρ W H ρ W (upd H p o) :=
  ok.grow0 (step_new ok.al hp) (al_new ok.al hp) rfl (cells_new ok.al hp)

theorem res_tup {K : PySem.W.Frag} {σ : L2.St} {ρ : Rho} {W : Wd} {H : Hp} {p : Addr} {ds : List D} {xs : List V} (ok : Ok K G W ρ σ H) (hp : H p = none) (h : DnA K W H ds xs) : Dn K (W.add p) (upd H p (.tup xs)) (.tup ds) (.ref p) :=
  .tup (.inl ⟨.inr rfl, Rd.of upd_same⟩) (h.le (step_frz ok.al hp).le)

theorem res_own {K : PySem.W.Frag} {σ : L2.St} {ρ : Rho} {W : Wd} {H H0 : Hp} {p : Addr} {ds : List D} {xs : List V} (ok : Ok K G W ρ σ H) (hp : H p = none) (h0 : H0 p = none) (h : DnA K W H ds xs) : Res K H0 W (upd H p (.lst xs)) (.own ds) (.ref p) := by
  refine ⟨⟨p, xs, rfl, upd_same, h.le (step_new ok.al hp).le⟩, fun _ q e => ?_⟩
  cases e
  refine ⟨fun z => ?_, fun z => ?_, fun z => ?_, h0⟩
  · obtain ⟨o, e⟩ := ok.al.f p z; rw [hp] at e; cases e
  · obtain ⟨u, e⟩ := (ok.al.j p z).some; rw [hp] at e; cases e
  · obtain ⟨_, _, o, e⟩ := ok.al.c p z; rw [hp] at e; cases e

theorem de_tup {es : List Expr} {u : WA} {x1} (h : DA X G T es u) : DE X G T (.Tuple es x1 pos) (wTup u) :=
  pe_weak (pe_tup h) fun σ H Q ⟨W, ρ, R, Z, ok, h, hR, hZ⟩ => ⟨W, ρ, _, Z, ok, h, fun ds ρ1 W1 xs H1 ⟨hl, h1⟩ g d => ⟨by rw [← d.length]; exact hl, fun p hp => hR _ _ _ _ _ h1 (g.trans (.newF g.ok hp)) (.of (res_tup g.ok hp d))⟩, hZ⟩

theorem de_lst {es : List Expr} {u : WA} (h : DA X G T es u) : DE X G T (.List es pos) (wLst u) :=
  pe_weak (pe_lst h) fun σ H Q ⟨W, ρ, R, Z, ok, h, hR, hZ⟩ => ⟨W, ρ, _, Z, ok, h, fun ds ρ1 W1 xs H1 ⟨hl, h1⟩ g d => ⟨by rw [← d.length]; exact hl, fun p hp => hR _ _ _ _ _ h1 (g.trans (.new g.ok hp)) (res_own g.ok hp (g.stp.up p hp) d)⟩, hZ⟩

/-! ### calls of built-ins -/

def wCallB (f : List D → (S → Prop) → Prop) (u : WA) : WE := fun Z ρ R => u Z ρ fun ds ρ1 => f ds fun z => R z ρ1

def CaD (K : PySem.W.Frag) (r : List V → Hp → VK → Prop) (f : List D → (S → Prop) → Prop) : Prop :=
  ∀ (G : Gx) (W : Wd) (ρ : Rho) (σ : L2.St) (H : Hp) (ds : List D) (xs : List V) (R : S → Prop) (Q : VK), Ok K G W ρ σ H → DnA K W H ds xs → f ds R →
    (∀ z W' v H', R z → Go K G σ ρ W H ρ W' H' → Res K H W' H' z v → Q v H') → r xs H Q

theorem lE_callB {K : PySem.W.Frag} {r : List V → Hp → VK → Prop} {f : List D → (S → Prop) → Prop} {u : WA} (ho : CaD K r f) {σ : L2.St} {H : Hp} {Q : VK} (h : lE K G T (wCallB f u) σ H Q) : tCB r (lA K G T u) σ H Q := by
  obtain ⟨W, ρ, R, Z, ok, h, hR, hZ⟩ := h
  exact ⟨W, ρ, _, Z, ok, h, fun ds ρ1 W1 xs H1 h1 g d => ho G W1 ρ1 σ H1 ds xs _ Q g.ok d h1 fun z W' v H' hz g2 r => hR z ρ1 W' v H' hz (g.trans g2) (r.up g.stp.up), hZ⟩

theorem de_callB {x : Str} {id : String} {es : List Expr} {r : List V → Hp → VK → Prop} {f : List D → (S → Prop) → Prop} {u : WA} (hr : CallR X (.builtin id) r) (ho : CaD X.K r f) (hg : Gl X x) (hm : X.mg x = none) (hv : bootBuiltins x = some (.builtin id))
    (ha : DA X G T (e :: es) u) (hn : x ≠ "__name__" := by decide) (hdb : (x == ("__debug__" : Str)) = false := by decide)
    (he : starEach (e :: es) X.env = (false, eval e X.env) :: starEach es X.env := by rfl) (hpl : (backTo pos (starEach es X.env)).any (·.1) = false := by rfl) : DE X G T (.Call (.Name x p) (e :: es) [] pos) (wCallB f u) :=
  pe_weak (pe_callB hr hg hm hv ha hn hdb he hpl) fun _ _ _ h => lE_callB ho h

theorem de_callTy {x : Str} {n : String} {es : List Expr} {r : List V → Hp → VK → Prop} {f : List D → (S → Prop) → Prop} {u : WA} (hr : CallR X (.type n) r) (ho : CaD X.K r f) (hg : Gl X x) (hm : X.mg x = none) (hv : bootBuiltins x = some (.type n))
    (ha : DA X G T (e :: es) u) (hn : x ≠ "__name__" := by decide) (hdb : (x == ("__debug__" : Str)) = false := by decide)
    (he : starEach (e :: es) X.env = (false, eval e X.env) :: starEach es X.env := by rfl) (hpl : (backTo pos (starEach es X.env)).any (·.1) = false := by rfl) : DE X G T (.Call (.Name x p) (e :: es) [] pos) (wCallB f u) :=
  pe_weak (pe_callTy hr hg hm hv ha hn hdb he hpl) fun _ _ _ h => lE_callB ho h

end

end DL












/-! DL2: operators and built-ins over data. -/

namespace DL

open PySem PySem.Spec L2

/-! ### data that can be compared and shown -/

mutual
def D.py : D → PyData
  | .non => .none
  | .bl b => .bool b
  | .int i => .int i
  | .str s => .str s
  | .tup ds => .tuple (D.pys ds)
  | .lst ds => .list (D.pys ds)
  | .rls ds => .list (D.pys ds)
  | _ => .none
def D.pys : List D → List PyData
  | [] => []
  | d :: ds => d.py :: D.pys ds
end

mutual
def D.isPy : D → Bool
  | .non => true
  | .bl _ => true
  | .int _ => true
  | .str _ => true
  | .tup ds => D.arePy ds
  | .lst ds => D.arePy ds
  | .rls ds => D.arePy ds
  | _ => false
def D.arePy : List D → Bool
  | [] => true
  | d :: ds => d.isPy && D.arePy ds
end

def D.scl : D → Bool
  | .non => true | .bl _ => true | .int _ => true | .str _ => true | _ => false

/-- == may be asked -/
def D.okEq (d : D) : Bool := d.isPy && SeqAt.shaped d.py

def D.okSc : D → D → Bool
  | .bl _, .int _ => false | .int _, .bl _ => false | d, e => d.scl && e.scl

def D.cmpOk (d e : D) : Bool := D.okSc d e || (d.okEq && e.okEq)

def D.eqb (d e : D) : Bool := PyData.eqv d.py e.py

def fEq (d e : D) (R : S → Prop) : Prop := D.cmpOk d e = true ∧ R (.d (.bl (D.eqb d e)))

def fNe (d e : D) (R : S → Prop) : Prop := D.cmpOk d e = true ∧ R (.d (.bl (!D.eqb d e)))

section

variable {K : PySem.W.Frag} {W : Wd} {H : Hp}

mutual
theorem Dn.dp : ∀ {d : D} {x : V}, Dn K W H d x → d.isPy = true → Dp K H x d.py
  | _, _, .non, _ => .non
  | _, _, .bl b, _ => .bl b
  | _, _, .int i, _ => .int i
  | _, _, .str s, _ => .str s
  | _, _, .tup h1 h2, p => .tup h1.sq (h2.dps p)
  | _, _, .lst _ h1 h2, p => .lst (SqL.of h1) (h2.dps p)
  | _, _, .rls h1 h2, p => .lst h1.sq (h2.dps p)
  | _, _, .dic _ _ _, p => nomatch (show false = true from p)
  | _, _, .ins _ _ _ _, p => nomatch (show false = true from p)
  | _, _, .cell _, p => nomatch (show false = true from p)
  | _, _, .cls _, p => nomatch (show false = true from p)
  | _, _, .jar _ _, p => nomatch (show false = true from p)
  | _, _, .v _, p => nomatch (show false = true from p)
theorem DnA.dps : ∀ {d : List D} {x : List V}, DnA K W H d x → D.arePy d = true → DpAll K H x (D.pys d)
  | _, _, .nil, _ => .nil
  | _, _, .cons h1 h2, p => by
    have p' : (D.isPy _ && D.arePy _) = true := p
    rw [Bool.and_eq_true] at p'
    exact .cons (h1.dp p'.1) (h2.dps p'.2)
end

theorem scal_of {d e : D} {x y : V} (h : Dn K W H d x) (g : Dn K W H e y) (o : D.okSc d e = true) : scal x y = true ∧ decide (x = y) = D.eqb d e := by
  cases h <;> cases g <;> first | (cases o; done) | (refine ⟨rfl, ?_⟩; first | exact dec_int | exact dec_bl | exact dec_str | (simp [D.eqb, D.py, PyData.eqv]; done))

def rEqA (K : PySem.W.Frag) : R2 := fun x y H Q => rEq x y H Q ∨ rEqD K x y H Q

def rNeA (K : PySem.W.Frag) : R2 := fun x y H Q => rNe x y H Q ∨ rNeD K x y H Q

theorem or_eqA {X : Cx} (hu : X.A.units + 64 < cLine) : OpR X (compareOp .Eq) (rEqA X.K) := OpR.or op_eq (op_eqD hu)

theorem or_neA {X : Cx} (hu : X.A.units + 64 < cLine) : OpR X (compareOp .NotEq) (rNeA X.K) := OpR.or op_ne (op_neD hu)

theorem od_eq : OpD K (rEqA K) fEq := by
  intro G W ρ σ H d e x y R Q ok h g ⟨f, r⟩ k
  rcases Bool.or_eq_true _ _ |>.mp f with o | o
  · obtain ⟨a, b⟩ := scal_of h g o
    exact .inl ⟨a, by rw [b]; exact k _ _ _ _ r (.refl ok) (.of (.bl _))⟩
  · simp only [D.okEq, Bool.and_eq_true] at o
    exact .inr ⟨_, _, h.dp o.1.1, g.dp o.2.1, o.1.2, o.2.2, k _ _ _ _ r (.refl ok) (.of (.bl _))⟩

theorem od_ne : OpD K (rNeA K) fNe := by
  intro G W ρ σ H d e x y R Q ok h g ⟨f, r⟩ k
  rcases Bool.or_eq_true _ _ |>.mp f with o | o
  · obtain ⟨a, b⟩ := scal_of h g o
    exact .inl ⟨a, by rw [b]; exact k _ _ _ _ r (.refl ok) (.of (.bl _))⟩
  · simp only [D.okEq, Bool.and_eq_true] at o
    exact .inr ⟨_, _, h.dp o.1.1, g.dp o.2.1, o.1.2, o.2.2, k _ _ _ _ r (.refl ok) (.of (.bl _))⟩

/-! ### order, is None, in -/

def fI2 (g : Int → Int → D) (d e : D) (R : S → Prop) : Prop := match d, e with
  | .int i, .int j => R (.d (g i j))
  | _, _ => False

theorem od_i2 {g : Int → Int → V} {g' : Int → Int → D} (hg : ∀ W H i j, Dn K W H (g' i j) (g i j)) : OpD K (rI0 g) (fI2 g') := by
  intro G W ρ σ H d e x y R Q ok h h' f k
  cases h <;> first | exact f.elim | skip
  cases h' <;> first | exact f.elim | skip
  exact ⟨_, _, rfl, rfl, k _ _ _ _ f (.refl ok) (.of (hg _ _ _ _))⟩

abbrev fLt := fI2 fun i j => .bl (decide (i < j))

abbrev fLe := fI2 fun i j => .bl (decide (i ≤ j))

abbrev fGt := fI2 fun i j => .bl (decide (j < i))

abbrev fGe := fI2 fun i j => .bl (decide (j ≤ i))

theorem od_lt : OpD K (rI0 fun i j => .bl (decide (i < j))) fLt := od_i2 fun _ _ _ _ => .bl _

theorem od_le : OpD K (rI0 fun i j => .bl (decide (i ≤ j))) fLe := od_i2 fun _ _ _ _ => .bl _

theorem od_gt : OpD K (rI0 fun i j => .bl (decide (j < i))) fGt := od_i2 fun _ _ _ _ => .bl _

theorem od_ge : OpD K (rI0 fun i j => .bl (decide (j ≤ i))) fGe := od_i2 fun _ _ _ _ => .bl _

def D.isNon (d : D) (R : Bool → Prop) : Prop := match d with
  | .non => R true
  | .v _ => False
  | _ => R false

end

section

variable {X : Cx} {G : Gx} {T : WX} {a b : Expr} {wa : WE} {pos : Pos}

theorem dn_non {K : PySem.W.Frag} {W : Wd} {H : Hp} {d : D} {x : V} (h : Dn K W H d x) {R : Bool → Prop} (f : d.isNon R) : R (decide (x = .non)) := by
  cases h <;> first | exact f.elim | exact f

end

/-! ### arithmetic -/

def fAdd (d e : D) (R : S → Prop) : Prop := match d, e with
  | .int i, .int j => R (.d (.int (i + j)))
  | .str i, .str j => i.length + j.length ≤ sizeLine ∧ R (.d (.str (i ++ j)))
  | .tup i, .tup j => i.length + j.length ≤ sizeLine ∧ R (.d (.tup (i ++ j)))
  | .lst i, .lst j => i.length + j.length ≤ sizeLine ∧ R (.own (i ++ j))
  | _, _ => False

abbrev rAddI : R2 := rI0 fun i j => .int (i + j)

abbrev rAddS : R2 := fun x y H Q => ∃ i j, x = .str i ∧ y = .str j ∧ i.length + j.length ≤ sizeLine ∧ Q (.str (i ++ j)) H

def rAddA (K : PySem.W.Frag) : R2 := fun x y H Q => ((rAddI x y H Q ∨ rAddS x y H Q) ∨ rCatA K x y H Q) ∨ rCat x y H Q

section

variable {K : PySem.W.Frag}

theorem or_add {X : Cx} : OpR X (binaryOp .Add) (rAddA X.K) := ((op_add.or op_add_str).or op_catA).or op_cat

theorem od_add : OpD K (rAddA K) fAdd := by
  intro G W ρ σ H d e x y R Q ok h h' f k
  cases h with
  | int i => cases h' with
    | int j => exact .inl (.inl (.inl ⟨_, _, rfl, rfl, k _ _ _ _ f (.refl ok) (.of (.int _))⟩))
    | _ => exact f.elim
  | str i => cases h' with
    | str j => exact .inl (.inl (.inr ⟨_, _, rfl, rfl, f.1, k _ _ _ _ f.2 (.refl ok) (.of (.str _))⟩))
    | _ => exact f.elim
  | tup h1 h2 => cases h' with
    | tup g1 g2 =>
      refine .inl (.inr ⟨_, _, _, _, rfl, rfl, h1.sq, g1.sq, by rw [← h2.length, ← g2.length]; exact f.1, fun q => ?_, fun _ q => ?_, fun _ _ p hp => ?_⟩)
      · subst q; cases h2
        exact k _ _ _ _ f.2 (.refl ok) (.of (.tup g1 g2))
      · subst q; cases g2
        refine k _ _ _ _ f.2 (.refl ok) (.of ?_)
        rw [List.append_nil]; exact .tup h1 h2
      · exact k _ _ _ _ f.2 (.newF ok hp) (.of (res_tup ok hp (h2.append g2)))
    | _ => exact f.elim
  | lst h0 h1 h2 => cases h' with
    | lst g0 g1 g2 =>
      exact .inr ⟨_, _, _, _, rfl, rfl, h1, g1, by rw [← h2.length, ← g2.length]; exact f.1, fun p hp => k _ _ _ _ f.2 (.new ok hp) (res_own ok hp hp (h2.append g2))⟩
    | _ => exact f.elim
  | _ => exact f.elim

def fSub := fI2 fun i j => .int (i - j)

theorem od_sub : OpD K (rI0 fun i j => .int (i - j)) fSub := od_i2 fun _ _ _ _ => .int _

def MulOk (i j : Int) : Prop := CMul i j ∨ CMulW i j

def fMul (d e : D) (R : S → Prop) : Prop := match d, e with
  | .int i, .int j => MulOk i j ∧ R (.d (.int (i * j)))
  | .lst i, .int j => (-(2 ^ 63) ≤ j ∧ j < 2 ^ 63) ∧ i.length * j.toNat ≤ sizeLine ∧ R (.own (List.replicate j.toNat i).flatten)
  | .tup i, .int j => i ≠ [] ∧ (2 ≤ j ∧ j ≤ 1000) ∧ i.length ≤ 1000 ∧ R (.d (.tup (List.replicate j.toNat i).flatten))
  | _, _ => False

def rMulA (K : PySem.W.Frag) : R2 := fun x y H Q => (((rI CMul fun i j => .int (i * j)) x y H Q ∨ (rI CMulW fun i j => .int (i * j)) x y H Q) ∨ rRep x y H Q) ∨ rRepT K x y H Q

theorem or_mul {X : Cx} : OpR X (binaryOp .Mult) (rMulA X.K) := ((op_mul.or op_mulW).or op_rep).or op_repT

theorem DnA.rep {W : Wd} {H : Hp} {ds : List D} {xs : List V} (h : DnA K W H ds xs) : ∀ n : Nat, DnA K W H (List.replicate n ds).flatten (List.replicate n xs).flatten
  | 0 => .nil
  | n + 1 => by
    rw [List.replicate_succ, List.replicate_succ, List.flatten_cons, List.flatten_cons]
    exact h.append (h.rep n)

theorem od_mul : OpD K (rMulA K) fMul := by
  intro G W ρ σ H d e x y R Q ok h h' f k
  cases h with
  | int i => cases h' with
    | int j =>
      rcases f with ⟨c | c, f⟩
      · exact .inl (.inl (.inl ⟨_, _, rfl, rfl, c, k _ _ _ _ f (.refl ok) (.of (.int _))⟩))
      · exact .inl (.inl (.inr ⟨_, _, rfl, rfl, c, k _ _ _ _ f (.refl ok) (.of (.int _))⟩))
    | _ => exact f.elim
  | lst h0 h1 h2 => cases h' with
    | int j => exact .inl (.inr ⟨_, _, _, rfl, rfl, h1, f.1.1, f.1.2, by rw [← h2.length]; exact f.2.1, fun p hp => k _ _ _ _ f.2.2 (.new ok hp) (res_own ok hp hp (h2.rep _))⟩)
    | _ => exact f.elim
  | tup h1 h2 => cases h' with
    | int j =>
      obtain ⟨f1, f2, f3, f4⟩ := f
      refine .inr ⟨_, _, _, rfl, rfl, h1.sq, fun q => ?_, f2.1, f2.2, by rw [← h2.length]; exact f3, fun p hp => k _ _ _ _ f4 (.newF ok hp) (.of (res_tup ok hp (h2.rep _)))⟩
      subst q; cases h2; exact f1 rfl
    | _ => exact f.elim
  | _ => exact f.elim

def DivOk (i j : Int) : Prop := CDivN i j ∨ CDivW i j

def fDiv (d e : D) (R : S → Prop) : Prop := match d, e with
  | .int i, .int j => DivOk i j ∧ R (.d (.int (i.fdiv j)))
  | _, _ => False

def rDivA : R2 := fun x y H Q => (rI CDivN fun i j => .int (i.fdiv j)) x y H Q ∨ (rI CDivW fun i j => .int (i / j)) x y H Q

theorem or_div {X : Cx} : OpR X (binaryOp .FloorDiv) rDivA := op_fdivN.or op_fdivW

theorem od_div : OpD K rDivA fDiv := by
  intro G W ρ σ H d e x y R Q ok h h' f k
  cases h with
  | int i => cases h' with
    | int j =>
      rcases f with ⟨c | c, f⟩
      · exact .inl ⟨_, _, rfl, rfl, c, k _ _ _ _ f (.refl ok) (.of (.int _))⟩
      · refine .inr ⟨_, _, rfl, rfl, c, k _ _ _ _ f (.refl ok) (.of ?_)⟩
        rw [Int.fdiv_eq_ediv_of_nonneg _ (Int.le_of_lt c.1)]
        exact .int _
    | _ => exact f.elim
  | _ => exact f.elim

def fMod (d e : D) (R : S → Prop) : Prop := match d, e with
  | .int i, .int j => j ≠ 0 ∧ R (.d (.int (i.fmod j)))
  | _, _ => False

theorem od_mod : OpD K (rI (fun _ j => j ≠ 0) fun i j => .int (i.fmod j)) fMod := by
  intro G W ρ σ H d e x y R Q ok h h' f k
  cases h with
  | int i => cases h' with
    | int j => exact ⟨_, _, rfl, rfl, f.1, k _ _ _ _ f.2 (.refl ok) (.of (.int _))⟩
    | _ => exact f.elim
  | _ => exact f.elim

def fPow (d e : D) (R : S → Prop) : Prop := match d, e with
  | .int i, .int j => CPow i j ∧ R (.d (.int (i ^ j.toNat)))
  | _, _ => False

theorem od_pow : OpD K (rI CPow fun i j => .int (i ^ j.toNat)) fPow := by
  intro G W ρ σ H d e x y R Q ok h h' f k
  cases h with
  | int i => cases h' with
    | int j => exact ⟨_, _, rfl, rfl, f.1, k _ _ _ _ f.2 (.refl ok) (.of (.int _))⟩
    | _ => exact f.elim
  | _ => exact f.elim

/-! ### in -/

def D.items : D → Option (List D)
  | .tup ds => some ds
  | .lst ds => some ds
  | .rls ds => some ds
  | _ => none

theorem Dn.seq {W : Wd} {H : Hp} {d : D} {x : V} {ds : List D} (h : Dn K W H d x) (e : d.items = some ds) : ∃ p vs, x = .ref p ∧ (SqL K H p vs ∨ SqT K H p vs) ∧ DnA K W H ds vs := by
  cases h <;> first | (cases e; done) | skip
  · cases e; exact ⟨_, _, rfl, .inr (SeqT.sq ‹_›), ‹_›⟩
  · cases e; exact ⟨_, _, rfl, .inl (SqL.of ‹_›), ‹_›⟩
  · cases e; exact ⟨_, _, rfl, .inl (SeqL.sq ‹_›), ‹_›⟩

/-- x in a list or tuple of flat things -/
def fIn (d e : D) (R : S → Prop) : Prop := ∃ ds, e.items = some ds ∧ d.scl = true ∧ ds.all D.scl = true ∧ R (.d (.bl (ds.any fun z => D.eqb z d)))

def fNin (d e : D) (R : S → Prop) : Prop := ∃ ds, e.items = some ds ∧ d.scl = true ∧ ds.all D.scl = true ∧ R (.d (.bl (!ds.any fun z => D.eqb z d)))

/-! ### xs[i], t[i], s[i] -/

def fIx (d e : D) (R : S → Prop) : Prop := match d, e with
  | .str s, .int i => ∃ c, s.length ≤ sizeLine ∧ atI s.cps.toList i = some c ∧ R (.d (.str ⟨#[c]⟩))
  | .jar, .int i => (i = 0 ∨ i = 1 ∨ i = 2) ∧ ∀ n : Int, (i = 1 → -(2 ^ 40) < n ∧ n < 2 ^ 40) → R (.d (.int n))
  | d, .int i => ∃ ds x, d.items = some ds ∧ atI ds i = some x ∧ R (.d x)
  | _, _ => False

theorem DnA.atI {W : Wd} {H : Hp} {ds : List D} {xs : List V} {i : Int} {d : D} (h : DnA K W H ds xs) (e : atI ds i = some d) : ∃ x, L2.atI xs i = some x ∧ Dn K W H d x := by
  unfold L2.atI at e ⊢
  rw [← h.length]
  cases q : ixN ds.length i with
  | none => rw [q] at e; cases e
  | some j =>
    rw [q] at e
    exact h.get e

theorem fix_items {d : D} {i : Int} {R : S → Prop} (f : fIx d (.int i) R) (n : ∀ s, d ≠ .str s) (n' : d ≠ .jar) : ∃ ds x, d.items = some ds ∧ L2.atI ds i = some x ∧ R (.d x) := by
  cases d <;> first | exact f | exact absurd rfl (n _) | exact absurd rfl n'

end

section

variable {X : Cx} {G : Gx} {T : WX} {a b : Expr} {wa wb : WE} {pos : Pos}

theorem od_ix {K : PySem.W.Frag} : OpD K (rIx K) fIx := by
  intro G W ρ σ H d e x y R Q ok h h' f k
  cases h' with
  | int i =>
    by_cases hs : ∃ s, d = .str s
    · obtain ⟨s, rfl⟩ := hs
      cases h
      obtain ⟨c, f1, f2, f3⟩ := f
      exact .inr (.inr ⟨s, i, c, rfl, rfl, f1, f2, k _ _ _ _ f3 (.refl ok) (.of (.str _))⟩)
    · by_cases hj : d = .jar
      · subst hj
        cases h
        rename_i a ja jn
        obtain ⟨p, q, r, e, b1, b2⟩ := (ok.al.j a ja).jar jn
        obtain ⟨f1, f2⟩ := f
        refine .inl ⟨a, [.int p, .int q, .int r], i, .int (if i = 0 then p else if i = 1 then q else r), rfl, rfl, SqL.of e, ?_, k _ _ _ _ (f2 _ fun e1 => ?_) (.refl ok) (.of (.int _))⟩
        · rcases f1 with rfl | rfl | rfl <;> rfl
        · subst e1; exact ⟨b1, b2⟩
      obtain ⟨ds, z, f1, f2, f3⟩ := fix_items f (fun s q => hs ⟨s, q⟩) hj
      obtain ⟨p, vs, rfl, s, a⟩ := h.seq f1
      obtain ⟨v, e1, e2⟩ := a.atI f2
      have q := k _ _ _ _ f3 (.refl ok) (.of e2)
      rcases s with s | s
      · exact .inl ⟨_, _, _, _, rfl, rfl, s, e1, q⟩
      · exact .inr (.inl ⟨_, _, _, _, rfl, rfl, s, e1, q⟩)
  | _ => exact (by cases d <;> exact f.elim)

end

/-! ### built-ins -/

section

variable {K : PySem.W.Frag}

def fLen (ds : List D) (R : S → Prop) : Prop := match ds with
  | [.str s] => s.length ≤ sizeLine ∧ R (.d (.int s.length))
  | [d] => ∃ es, d.items = some es ∧ R (.d (.int es.length))
  | _ => False

theorem flen_items {d : D} {R : S → Prop} (f : fLen [d] R) (n : ∀ s, d ≠ .str s) : ∃ ds, d.items = some ds ∧ R (.d (.int ds.length)) := by
  cases d <;> first | exact f | exact absurd rfl (n _)

theorem dna1 {W : Wd} {H : Hp} {ds : List D} {xs : List V} (h : DnA K W H ds xs) (e : ds.length = 1) : ∃ d x, ds = [d] ∧ xs = [x] ∧ Dn K W H d x := by
  match ds, e, h with
  | [d], _, .cons h1 .nil => exact ⟨_, _, rfl, rfl, h1⟩

theorem flen1 {ds : List D} {R : S → Prop} (f : fLen ds R) : ds.length = 1 := by
  match ds, f with
  | [d], _ => rfl
  | [], f => exact f.elim
  | a :: _ :: _, f => cases a <;> exact f.elim

theorem cd_len : CaD K (fun xs H Q => ∃ x n, xs = [x] ∧ LenV K x H n ∧ Q (.int n) H) fLen := by
  intro G W ρ σ H ds xs R Q ok h f k
  obtain ⟨d, x, rfl, rfl, h1⟩ := dna1 h (flen1 f)
  by_cases hs : ∃ s, d = .str s
  · obtain ⟨s, rfl⟩ := hs
    cases h1
    exact ⟨_, _, rfl, ⟨f.1, rfl⟩, k _ _ _ _ f.2 (.refl ok) (.of (.int _))⟩
  · obtain ⟨es, e1, e2⟩ := flen_items f fun s q => hs ⟨s, q⟩
    obtain ⟨p, vs, rfl, s, a⟩ := h1.seq e1
    refine ⟨.ref p, es.length, rfl, ?_, k _ _ _ _ e2 (.refl ok) (.of (.int _))⟩
    rcases s with s | s
    · exact .inl ⟨_, s, a.length⟩
    · exact .inr ⟨_, s, a.length⟩

def fTuple (ds : List D) (R : S → Prop) : Prop := match ds with
  | [d] => ∃ es, d.items = some es ∧ R (.d (.tup es))
  | _ => False

theorem cd_tuple : CaD K (fun xs H Q => ∃ p ys, xs = [.ref p] ∧ ((SqL K H p ys ∧ ∀ l, H l = none → Q (.ref l) (upd H l (.tup ys))) ∨ (SqT K H p ys ∧ Q (.ref p) H))) fTuple := by
  intro G W ρ σ H ds xs R Q ok h f k
  match ds, h, f with
  | [d], .cons (x := x) h1 .nil, f =>
    obtain ⟨es, e1, e2⟩ := f
    cases h1 <;> first | (cases e1; done) | skip
    · cases e1
      exact ⟨_, _, rfl, .inr ⟨SeqT.sq ‹_›, k _ _ _ _ e2 (.refl ok) (.of (.tup ‹_› ‹_›))⟩⟩
    · cases e1
      exact ⟨_, _, rfl, .inl ⟨SqL.of ‹_›, fun l hl => k _ _ _ _ e2 (.newF ok hl) (.of (res_tup ok hl ‹_›))⟩⟩
    · cases e1
      exact ⟨_, _, rfl, .inl ⟨SeqL.sq ‹_›, fun l hl => k _ _ _ _ e2 (.newF ok hl) (.of (res_tup ok hl ‹_›))⟩⟩

def fList (ds : List D) (R : S → Prop) : Prop := match ds with
  | [d] => ∃ es, d.items = some es ∧ R (.own es)
  | _ => False

theorem cd_list : CaD K (fun xs H Q => ∃ p ys, xs = [.ref p] ∧ (SqL K H p ys ∨ SqT K H p ys) ∧ ∀ l, H l = none → Q (.ref l) (upd H l (.lst ys))) fList := by
  intro G W ρ σ H ds xs R Q ok h f k
  match ds, h, f with
  | [d], .cons (x := x) h1 .nil, f =>
    obtain ⟨es, e1, e2⟩ := f
    obtain ⟨p, vs, rfl, s, a⟩ := h1.seq e1
    exact ⟨_, _, rfl, s, fun l hl => k _ _ _ _ e2 (.new ok hl) (res_own ok hl hl a)⟩

def fAbs (ds : List D) (R : S → Prop) : Prop := match ds with
  | [.int i] => R (.d (.int (if i < 0 then -i else i)))
  | _ => False

theorem cd_abs : CaD K (fun xs H Q => ∃ i, xs = [.int i] ∧ Q (.int (if i < 0 then -i else i)) H) fAbs := by
  intro G W ρ σ H ds xs R Q ok h f k
  unfold fAbs at f
  split at f
  · cases h with | cons h1 h2 => cases h1; cases h2; exact ⟨_, rfl, k _ _ _ _ f (.refl ok) (.of (.int _))⟩
  · exact f.elim

def fMax2 (ds : List D) (R : S → Prop) : Prop := match ds with
  | [.int i, .int j] => R (.d (.int (if j > i then j else i)))
  | _ => False

def fMin2 (ds : List D) (R : S → Prop) : Prop := match ds with
  | [.int i, .int j] => R (.d (.int (if j < i then j else i)))
  | _ => False

theorem cd_max2 : CaD K (fun xs H Q => ∃ i j, xs = [.int i, .int j] ∧ Q (.int (if j > i then j else i)) H) fMax2 := by
  intro G W ρ σ H ds xs R Q ok h f k
  unfold fMax2 at f
  split at f
  · cases h with | cons h1 h2 => cases h1; cases h2 with | cons h3 h4 => cases h3; cases h4; exact ⟨_, _, rfl, k _ _ _ _ f (.refl ok) (.of (.int _))⟩
  · exact f.elim

theorem cd_min2 : CaD K (fun xs H Q => ∃ i j, xs = [.int i, .int j] ∧ Q (.int (if j < i then j else i)) H) fMin2 := by
  intro G W ρ σ H ds xs R Q ok h f k
  unfold fMin2 at f
  split at f
  · cases h with | cons h1 h2 => cases h1; cases h2 with | cons h3 h4 => cases h3; cases h4; exact ⟨_, _, rfl, k _ _ _ _ f (.refl ok) (.of (.int _))⟩
  · exact f.elim

def fInt (ds : List D) (R : S → Prop) : Prop := match ds with
  | [.int i] => R (.d (.int i))
  | [.bl k] => R (.d (.int (if k then 1 else 0)))
  | _ => False

theorem cd_int : CaD K (fun xs H Q => (∃ i, xs = [.int i] ∧ Q (.int i) H) ∨ ∃ k, xs = [.bl k] ∧ Q (.int (if k then 1 else 0)) H) fInt := by
  intro G W ρ σ H ds xs R Q ok h f k
  unfold fInt at f
  split at f
  · cases h with | cons h1 h2 => cases h1; cases h2; exact .inl ⟨_, rfl, k _ _ _ _ f (.refl ok) (.of (.int _))⟩
  · cases h with | cons h1 h2 => cases h1; cases h2; exact .inr ⟨_, rfl, k _ _ _ _ f (.refl ok) (.of (.int _))⟩
  · exact f.elim

/-- of a list of ints, of bools -/
def fInts (g : List Int → (S → Prop) → Prop) (ds : List D) (R : S → Prop) : Prop := ∃ ns : List Int, (ds = [.lst (ns.map .int)] ∨ ds = [.rls (ns.map .int)]) ∧ g ns R

theorem DnA.ints1 {W : Wd} {H : Hp} {ds : List D} {xs : List V} {ns : List Int} (h : DnA K W H ds xs) (e : ds = [.lst (ns.map .int)] ∨ ds = [.rls (ns.map .int)]) : ∃ a, xs = [.ref a] ∧ SqL K H a (ns.map V.int) := by
  rcases e with rfl | rfl
  · cases h with | cons g h3 => cases h3; cases g with | lst h0 h1 h2 => rw [h2.map_int] at h1; exact ⟨_, rfl, SqL.of h1⟩
  · cases h with | cons g h3 => cases h3; cases g with | rls h1 h2 => rw [h2.map_int] at h1; exact ⟨_, rfl, h1.sq⟩

def fSum := fInts fun ns R => R (.d (.int ns.sum))

def fMaxL := fInts fun ns R => 0 < ns.length ∧ ∀ m, m ∈ ns → (∀ y, y ∈ ns → y ≤ m) → R (.d (.int m))

def fMinL := fInts fun ns R => 0 < ns.length ∧ ∀ m, m ∈ ns → (∀ y, y ∈ ns → m ≤ y) → R (.d (.int m))

def fSorted := fInts fun ns R => ∀ ns' : List Int, ns'.Perm ns → ns'.Pairwise (· ≤ ·) → R (.own (ns'.map .int))

theorem cd_sorted : CaD K (rSortedI K) fSorted := by
  intro G W ρ σ H ds xs R Q ok h ⟨ns, e, f⟩ k
  obtain ⟨a, rfl, s⟩ := h.ints1 e
  exact ⟨a, ns, rfl, s, fun ns' p h1 h2 hp => k _ _ _ _ (f ns' h1 h2) (.new ok hp) (res_own ok hp hp (.of_int ns'))⟩

def fAll (ds : List D) (R : S → Prop) : Prop := ∃ bs : List Bool, ds = [.lst (bs.map .bl)] ∧ R (.d (.bl (bs.all id)))

def fAny (ds : List D) (R : S → Prop) : Prop := ∃ bs : List Bool, ds = [.lst (bs.map .bl)] ∧ R (.d (.bl (bs.any id)))

theorem DnA.bls1 {W : Wd} {H : Hp} {xs : List V} {ns : List Bool} (h : DnA K W H [.lst (ns.map .bl)] xs) : ∃ a, xs = [.ref a] ∧ SqL K H a (ns.map V.bl) := by
  cases h with | cons g h3 => cases h3; cases g with | lst h0 h1 h2 => rw [h2.map_bl] at h1; exact ⟨_, rfl, SqL.of h1⟩

theorem cd_all : CaD K (rAll K) fAll := by
  intro G W ρ σ H ds xs R Q ok h ⟨ns, e, f⟩ k
  subst e
  obtain ⟨a, rfl, s⟩ := h.bls1
  exact ⟨a, ns, rfl, s, k _ _ _ _ f (.refl ok) (.of (.bl _))⟩

/-! ### repr -/

def rRepr (K : PySem.W.Frag) : List V → Hp → VK → Prop := fun xs H Q => ∃ x d, xs = [x] ∧ Dp K H x d ∧ d.showable = true ∧ d.hasDict = false ∧ d.depth ≤ 60 ∧ d.shown.length ≤ sizeLine ∧ Q (.str d.shown) H

theorem cr_repr {X : Cx} (hg : X.A.guards = some []) (hu : X.A.units + 64 < cLine) : CallR X (.builtin "repr") (rRepr X.K) := by
  intro pins s σ H xs us Q I r ⟨x, d, e, hp, h1, h2, h3, h4, q⟩
  subst e
  obtain ⟨u, rfl, ru⟩ := vals1 r
  obtain ⟨as, rd⟩ := Dp.reads I d x u hp ru
  have fin : ∀ (h' : Heap) (t : Tok) (tk : Nat), (∀ b o, s.heap.get? b = some o → h'.get? b = some o) → EP X pins σ Q (.str d.shown t) { s with heap := h', toks := tk } := fun h' t tk k => ⟨.str d.shown, H, I.kept k, ⟨t, rfl⟩, q⟩
  cases hp with
  | non => obtain rfl := ru; exact PySem.P.repr_of_none (fin s.heap _ _ fun _ _ e => e)
  | bl b => obtain rfl := ru; exact PySem.P.repr_of_bool (fin s.heap _ _ fun _ _ e => e)
  | int i =>
    obtain ⟨t, rfl⟩ := ru
    refine PySem.P.repr_of_int (by simpa [PyData.showable] using h1) (fin s.heap _ _ fun _ _ e => e)
  | str z => obtain ⟨t, rfl⟩ := ru; exact PySem.P.repr_of_str (fin s.heap _ _ fun _ _ e => e) h4
  | lst h h' => obtain rfl := ru; exact PySem.repr_of_reads' rd h1 (PySem.PyData.noDict_hsm h2) hg (by omega) (fun _ _ e => e) (fun h' u tk k => fin h' u tk k) h4
  | tup h h' => obtain rfl := ru; exact PySem.repr_of_reads' rd h1 (PySem.PyData.noDict_hsm h2) hg (by omega) (fun _ _ e => e) (fun h' u tk k => fin h' u tk k) h4

mutual
theorem py_noDict : ∀ d : D, d.py.hasDict = false
  | .non => rfl | .bl _ => rfl | .int _ => rfl | .str _ => rfl | .jar => rfl | .v _ => rfl | .dic _ => rfl | .ins _ _ => rfl | .cell _ => rfl | .cls _ => rfl | .exc _ _ => rfl
  | .tup ds => pys_noDict ds
  | .lst ds => pys_noDict ds
  | .rls ds => pys_noDict ds
theorem pys_noDict : ∀ ds : List D, PyData.hasDictAll (D.pys ds) = false
  | [] => rfl
  | d :: ds => by
    show (PyData.hasDict d.py || PyData.hasDictAll (D.pys ds)) = false
    rw [py_noDict d, pys_noDict ds]; rfl
end

def D.okRepr (d : D) : Prop := d.isPy = true ∧ d.py.showable = true ∧ d.py.depth ≤ 60 ∧ d.py.shown.length ≤ sizeLine

def fRepr (ds : List D) (R : S → Prop) : Prop := match ds with
  | [d] => d.okRepr ∧ R (.d (.str d.py.shown))
  | _ => False

theorem cd_repr : CaD K (rRepr K) fRepr := by
  intro G W ρ σ H ds xs R Q ok h f k
  match ds, h, f with
  | [d], .cons (x := x) h1 .nil, ⟨⟨f1, f2, f3, f4⟩, f⟩ =>
    exact ⟨x, d.py, rfl, h1.dp f1, f2, py_noDict d, f3, f4, k _ _ _ _ f (.refl ok) (.of (.str _))⟩

/-! ### isinstance with a built-in class -/

def D.tyName : D → Option String
  | .non => some "NoneType"
  | .bl _ => some "bool"
  | .int _ => some "int"
  | .str _ => some "str"
  | .tup _ => some "tuple"
  | .lst _ => some "list"
  | .rls _ => some "list"
  | .dic _ => some "dict"
  | _ => none

def fIsi (ds : List D) (R : S → Prop) : Prop := match ds with
  | [d, .v (.ty n)] => ∃ t b, d.tyName = some t ∧ kitB t n = some b ∧ R (.d (.bl b))
  | _ => False

theorem SeqT.ty {W : Wd} {H : Hp} {a : Addr} {xs : List V} (h : SeqT K W H a xs) : TyX K H (.ref a) (.type "tuple") := by
  rcases h with ⟨_, h | ⟨o, h⟩⟩ | ⟨o, its, n, h1, h2, _⟩
  · exact .base (.tup h)
  · exact .fTuple h
  · exact .kTuple h1 h2

theorem SeqL.ty {W : Wd} {H : Hp} {a : Addr} {xs : List V} (h : SeqL K W H a xs) : TyX K H (.ref a) (.type "list") := by
  rcases h with ⟨_, h | ⟨o, h⟩⟩ | ⟨o, its, n, h1, h2, _⟩
  · exact .base (.lst h)
  · exact .base (.frz h)
  · exact .kList h1 h2

theorem Dn.ty {W : Wd} {H : Hp} {d : D} {x : V} {t : String} (h : Dn K W H d x) (e : d.tyName = some t) : TyX K H x (.type t) := by
  cases h <;> first | (cases e; done) | skip
  · cases e; exact .base .non
  · cases e; exact .base (.bl _)
  · cases e; exact .base (.int _)
  · cases e; exact .base (.str _)
  · cases e; exact SeqT.ty ‹_›
  · cases e; exact .base (.lst ‹_›)
  · cases e; exact SeqL.ty ‹_›
  · cases e
    rename_i h _
    rcases h.rd with q | ⟨o, q⟩
    · exact .base (.dK q)
    · exact .fDict q

theorem cd_isi : CaD K (rIsi K) fIsi := by
  intro G W ρ σ H ds xs R Q ok h f k
  unfold fIsi at f
  split at f
  · obtain ⟨t, b, f1, f2, f⟩ := f
    cases h with | cons h1 h2 => cases h2 with | cons h3 h4 => cases h3; cases h4; exact ⟨_, .ty _, _, _, b, rfl, .ty _, h1.ty f1, kit_ty f2, k _ _ _ _ f (.refl ok) (.of (.bl _))⟩
  · exact f.elim

end

end DL







/-! DL3: statements, loops, comprehensions. -/

namespace DL

open PySem PySem.Spec L2

section

variable {K : PySem.W.Frag} {G : Gx} {T : WX} {σ : L2.St} {ρ ρ1 : Rho} {W W1 : Wd} {H H1 : Hp}

/-! ### slots are stored -/

theorem Ok.set (ok : Ok K G W ρ σ H) {i : Nat} {d : S} {x : V} (r : Rs K W H d x) (f : d.isOwn = true → ∀ p, x = .ref p → ¬ W.F p ∧ ¬ W.J p ∧ ¬ p ∈ W.C ∧ G.H p = none ∧ ¬ Ow ρ σ p) : Ok K G W (ρ.set i (some d)) (σ.set i (some x)) H := by
  have cs : ∀ {j : Nat} {e : S}, (ρ.set i (some d)).sl[j]? = some (some e) → (i = j ∧ d = e ∧ (σ.set i (some x))[j]? = some (some x)) ∨ (i ≠ j ∧ ρ.sl[j]? = some (some e) ∧ (σ.set i (some x))[j]? = σ[j]?) := fun {j e} h => by
    rcases set_get h with ⟨z1, z2⟩ | ⟨z1, z2⟩
    · cases z2; subst z1
      refine .inl ⟨rfl, rfl, ?_⟩
      have hl : i < ρ.sl.length := by
        have := (List.getElem?_eq_some_iff.mp h).1
        have e : (ρ.set i (some d)).sl.length = ρ.sl.length := List.length_set
        rwa [e] at this
      rw [List.getElem?_set_self (by rw [ok.len]; exact hl)]
    · exact .inr ⟨z1, z2, List.getElem?_set_ne z1⟩
  have ow : ∀ {j : Nat} {e : S} {a : Addr}, ρ.sl[j]? = some (some e) → e.isOwn = true → σ[j]? = some (some (.ref a)) → Ow ρ σ a := fun h1 h2 h3 => ⟨_, _, h1, h2, h3⟩
  refine ⟨List.length_set.trans (ok.len.trans List.length_set.symm), fun j e h => ?_, fun a ⟨j, e, h1, h2, h3⟩ => ?_, fun j l e e' a h1 h2 o1 o2 s1 s2 => ?_, ok.al, ok.en, ok.mm⟩
  · rcases cs h with ⟨_, q, s⟩ | ⟨_, q, s⟩
    · subst q; exact ⟨x, s, r⟩
    · rw [s]; exact ok.val j e q
  · rcases cs h1 with ⟨_, q, s⟩ | ⟨_, q, s⟩
    · subst q; rw [s] at h3; cases h3
      obtain ⟨a1, a2, a4, a3, _⟩ := f h2 a rfl
      exact ⟨a1, a2, a4, a3⟩
    · rw [s] at h3; exact ok.frs a (ow q h2 h3)
  · rcases cs h1 with ⟨z1, q1, t1⟩ | ⟨z1, q1, t1⟩
    · subst q1; rw [t1] at s1; cases s1
      rcases cs h2 with ⟨z2, q2, t2⟩ | ⟨z2, q2, t2⟩
      · exact z1.symm.trans z2
      · rw [t2] at s2
        exact absurd (ow q2 o2 s2) (f o1 a rfl).2.2.2.2
    · rw [t1] at s1
      rcases cs h2 with ⟨z2, q2, t2⟩ | ⟨z2, q2, t2⟩
      · subst q2; rw [t2] at s2; cases s2
        exact absurd (ow q1 o1 s1) (f o2 a rfl).2.2.2.2
      · rw [t2] at s2
        exact ok.inj j l e e' a q1 q2 o1 o2 s1 s2

/-- a value that has come since ok0, the slots' values as they were -/
theorem Go.fr (ok0 : Ok K G W ρ σ H) (g : Go K G σ ρ W H ρ1 W1 H1) {d : S} {x : V} (r : Res K H W1 H1 d x) : d.isOwn = true → ∀ p, x = .ref p → ¬ W1.F p ∧ ¬ W1.J p ∧ ¬ p ∈ W1.C ∧ G.H p = none ∧ ¬ Ow ρ1 σ p := fun o p e => by
  obtain ⟨a, b, d, c⟩ := r.fr o p e
  refine ⟨a, b, d, ok0.upG c, fun q => ?_⟩
  obtain ⟨u, hu⟩ := ok0.here (g.sub p q)
  rw [c] at hu
  cases hu

theorem Go.set (ok0 : Ok K G W ρ σ H) (g : Go K G σ ρ W H ρ1 W1 H1) {d : S} {x : V} (r : Res K H W1 H1 d x) (i : Nat) : Ok K G W1 (ρ1.set i (some d)) (σ.set i (some x)) H1 :=
  g.ok.set r.rs (g.fr ok0 r)

/-- a value kept over a further evaluation -/
theorem Res.go {ρ2 : Rho} {W2 : Wd} {H2 : Hp} (ok0 : Ok K G W ρ σ H) (g : Go K G σ ρ W H ρ1 W1 H1) (g2 : Go K G σ ρ1 W1 H1 ρ2 W2 H2) {d : S} {x : V} (r : Res K H W1 H1 d x) : Res K H W2 H2 d x := by
  have nO : d.isOwn = true → ∀ p, x = .ref p → H2 p = H1 p ∧ ¬ W2.F p ∧ ¬ W2.J p ∧ ¬ p ∈ W2.C := fun o p e => by
    obtain ⟨a, b, d, c, n⟩ := g.fr ok0 r o p e
    obtain ⟨q, u, e1, e2⟩ := r.rs.ow o
    rw [e] at e1; cases e1
    refine ⟨by rw [e2]; exact g2.stp.st p u e2 b d n, fun z => ?_, fun z => ?_, fun z => ?_⟩
    · rcases g2.stp.nF p z with y | y | y
      · exact a y
      · rw [e2] at y; cases y
      · exact n y
    · rcases g2.stp.nJ p z with y | y
      · exact b y
      · rw [e2] at y; cases y
    · rcases g2.stp.nC p z with y | y
      · exact d y
      · rw [e2] at y; cases y
  exact ⟨r.rs.le g2.stp.le fun o p e => (nO o p e).1, fun o p e => ⟨(nO o p e).2.1, (nO o p e).2.2.1, (nO o p e).2.2.2, (r.fr o p e).2.2.2⟩⟩

end

section

variable {X : Cx} {G : Gx} {T : WX} {a b c e : Expr} {w wa wb wc : WE} {t : WT} {u v : WS} {pos p : Pos} {st : Stmt} {rest : List Stmt}

/-! ### blocks and small statements -/

def wNext : WS := fun E ρ => E.nx ρ

def wSeq (u v : WS) : WS := fun E ρ => u { E with nx := v E } ρ

theorem dss_nil : DSs X G T [] wNext := pss_weak pss_nil fun D σ H ⟨W, ρ, E, ok, h, hn, _⟩ => hn ρ W σ H h ok (.refl _ _)

theorem lS_on {K : PySem.W.Frag} {σ : L2.St} {ρ1 : Rho} {W W1 : Wd} {H H1 : Hp} {D : Ends} {E : DEnds} (ok1 : Ok K G W1 ρ1 σ H1) (l : Le W H W1 H1) (h : u E ρ1) (hn : lN K G E.nx D.nx W H) (hr : lR K G E.rt D.rt W H) (hb : lN K G E.bk D.bk W H) (hc : lN K G E.ct D.ct W H) (hx : lX K G T E.ex W H) :
    lS K G T u D σ H1 := ⟨W1, ρ1, E, ok1, h, hn.le l, hr.le l, hb.le l, hc.le l, hx.le l⟩

theorem dss_cons (h1 : DS X G T st u) (h2 : DSs X G T rest v) : DSs X G T (st :: rest) (wSeq u v) :=
  pss_weak (pss_cons h1 h2) fun D σ H ⟨W, ρ, E, ok, h, hn, hr, hb, hc, hx⟩ => ⟨W, ρ, { E with nx := v E }, ok, h, fun ρ' W' σ' H' h' ok' l => lS_on ok' l h' hn hr hb hc hx, hr, hb, hc, hx⟩

theorem dss_one (h1 : DS X G T st u) : DSs X G T [st] u := pss_one h1

def wBrk : WS := fun E ρ => E.bk ρ

def wCnt : WS := fun E ρ => E.ct ρ

def wDrop (w : WE) : WS := fun E ρ => w E.ex ρ fun _ ρ' => E.nx ρ'

theorem ds_expr (he : DE X G T e w) (hs : swapsWith e none pos.line X.env = pure false := by rfl) : DS X G T (.Expr e pos) (wDrop w) :=
  ps_weak (ps_expr he hs) fun D σ H ⟨W, ρ, E, ok, h, hn, hr, hb, hc, hx⟩ => ⟨W, ρ, _, E.ex, ok, h, fun d ρ' W' x H' h' g _ => hn ρ' W' σ H' h' g.ok g.stp.le, hx.z σ ρ⟩

def wRet (w : WE) : WS := fun E ρ => w E.ex ρ fun d ρ' => E.rt d ρ'.mm

theorem ds_ret (he : DE X G T e w) : DS X G T (.Return (some e) pos) (wRet w) :=
  ps_weak (ps_ret he) fun D σ H ⟨W, ρ, E, ok, h, hn, hr, hb, hc, hx⟩ => ⟨W, ρ, _, E.ex, ok, h, fun d ρ' W' x H' h' g r => hr d ρ' W' σ x H' h' g.ok g.stp.le (r.up ok.en.up), hx.z σ ρ⟩

def wRetN : WS := fun E ρ => E.rt (.d .non) ρ.mm

def wIf (t : WT) (u v : WS) : WS := fun E ρ => t E.ex ρ fun c ρ1 => if c = true then u E ρ1 else v E ρ1

theorem ds_if {c : Expr} {a b : List Stmt} (hc : DT X G T c t) (ha : DSs X G T a u) (hb : DSs X G T b v) : DS X G T (.If c a b pos) (wIf t u v) :=
  ps_weak (ps_if hc ha hb) fun D σ H ⟨W, ρ, E, ok, h, hn, hr, hb, hc, hx⟩ => lT_then ok h (hx.z σ ρ) fun c ρ1 W1 H1 hh g => by
    cases c with
    | true => exact lS_on g.ok g.stp.le hh hn hr hb hc hx
    | false => exact lS_on g.ok g.stp.le hh hn hr hb hc hx

def wSet (i : Nat) (w : WE) : WS := fun E ρ => w E.ex ρ fun d ρ' => E.nx (ρ'.set i (some d))

theorem lS_set {K : PySem.W.Frag} {σ : L2.St} {H : Hp} {D : Ends} {i : Nat} {te : TE} (ht : ∀ Q, lE K G T w σ H Q → te σ H Q) (h : lS K G T (wSet i w) D σ H) : tAsg te (gName i) D σ H := by
  obtain ⟨W, ρ, E, ok, h, hn, hr, hb, hc, hx⟩ := h
  exact ht _ ⟨W, ρ, _, E.ex, ok, h, fun d ρ' W' x H' h' g r => hn _ W' _ H' h' (g.set ok r i) g.stp.le, hx.z σ ρ⟩

theorem ds_set {i : Nat} {x : Str} {pos' : Pos} (hN : X.N.Nodup) (he : DE X G T e w) (hi : X.N[i]? = some x := by rfl) (hx : Loc X.env.scope x := by first | exact .inl rfl | exact .inr rfl) (hs : swapsWith e (some (.Name x pos')) pos.line X.env = pure false := by rfl) (hf : X.fn x = true ∨ X.env.scope.names.lookup x = some .local := by first | exact .inr rfl | exact .inl rfl | assumption) :
    DS X G T (.Assign [.Name x pos'] e pos) (wSet i w) :=
  ps_weak (ps_set hN hi hx he hs hf) fun D σ H h => lS_set (fun _ q => q) h

/-- a, b = x, y -/
def wPar (i j : Nat) (wa wb : WE) : WS := fun E ρ => wa E.ex ρ fun x ρ1 => wb E.ex ρ1 fun y ρ2 => E.nx ((ρ2.set i (some x)).set j (some y))

theorem lS_par {K : PySem.W.Frag} {σ : L2.St} {H : Hp} {D : Ends} {i j : Nat} (h : lS K G T (wPar i j wa wb) D σ H) : lE K G T wa σ H fun x H1 => lE K G T wb σ H1 fun y H2 => D.nx ((σ.set i (some x)).set j (some y)) H2 := by
  obtain ⟨W, ρ, E, ok, h, hn, hr, hb, hc, hx⟩ := h
  refine ⟨W, ρ, _, E.ex, ok, h, fun d ρ1 W1 x H1 h1 g r => ?_, hx.z σ ρ⟩
  refine ⟨W1, ρ1, _, E.ex, g.ok, h1, fun e ρ2 W2 y H2 h2 g2 r2 => ?_, (hx.z σ ρ).go g⟩
  have r' := r.go ok g g2
  have g12 := g.trans g2
  have ok1 := g12.set ok r' i
  refine hn _ W2 _ H2 h2 (ok1.set r2.rs fun o p ep => ?_) g12.stp.le
  obtain ⟨a, b, c0, c, n⟩ := g2.fr g.ok r2 o p ep
  refine ⟨a, b, c0, c, fun ⟨l, f, f1, f2, f3⟩ => ?_⟩
  rcases set_get f1 with ⟨z1, z2⟩ | ⟨z1, z2⟩
  · cases z2; subst z1
    have hl : i < (σ.set i (some x)).length := (List.getElem?_eq_some_iff.mp f3).1
    rw [List.length_set] at hl
    rw [List.getElem?_set_self hl] at f3
    cases f3
    obtain ⟨q, u, e1, e2⟩ := r.rs.ow f2
    cases e1
    have := (r2.fr o p ep).2.2.2
    rw [e2] at this; cases this
  · rw [List.getElem?_set_ne z1] at f3
    exact n ⟨l, f, z2, f2, f3⟩

theorem ds_par {i j : Nat} {x y : Str} {px py pt : Pos} {kt k2 pt2} (hN : X.N.Nodup) (ha : DE X G T a wa) (hb : DE X G T b wb) (hc : X.calm = true := by rfl) (hi : X.N[i]? = some x := by rfl) (hj : X.N[j]? = some y := by rfl) (hij : i ≠ j := by decide)
    (hx : X.env.scope.names.lookup x = some .local := by rfl) (hy : X.env.scope.names.lookup y = some .local := by rfl)
    (hw : swappedStores [.Tuple [.Name x px, .Name y py] kt pt] (.Tuple [a, b] k2 pt2) X.env = pure (some [x, y]) := by rfl)
    (hs : swapsWithSole [.Tuple [.Name x px, .Name y py] kt pt] (.Tuple [a, b] k2 pt2) pos.line X.env = pure false := by rfl)
    (hsa : starEach (a :: [b]) X.env = (false, eval a X.env) :: starEach [b] X.env := by rfl) (hsb : starEach [b] X.env = (false, eval b X.env) :: starEach [] X.env := by rfl) :
    DS X G T (.Assign [.Tuple [.Name x px, .Name y py] kt pt] (.Tuple [a, b] k2 pt2) pos) (wPar i j wa wb) :=
  ps_weak (L2.ps_par (ta := tCons (lE X.K G T wa) (tCons (lE X.K G T wb) tNil)) hc hN hi hj hij hx hy (pa_cons ha (pa_cons hb pa_nil hsb) hsa) hw hs) fun D σ H h => by
    have q := lS_par h
    obtain ⟨W, ρ, R, Z, ok, h, h1, hZ⟩ := q
    refine ⟨W, ρ, R, Z, ok, h, fun d ρ1 W1 x H1 hr g r => ?_, hZ⟩
    obtain ⟨W', ρ', R', Z', ok', h', h1', hZ'⟩ := h1 d ρ1 W1 x H1 hr g r
    exact ⟨W', ρ', R', Z', ok', h', fun d ρ1 W1 y H1 hr g r => ⟨x, y, rfl, h1' d ρ1 W1 y H1 hr g r⟩, hZ'⟩

/-! ### while -/

/-! ### targets that are names -/

def stores : L2.St → List Nat → List V → L2.St
  | σ, i :: is, x :: xs => stores (σ.set i (some x)) is xs
  | σ, _, _ => σ

def storesR : Rho → List (Nat × D) → Rho
  | ρ, (i, d) :: l => storesR (ρ.set i (some (.d d))) l
  | ρ, [] => ρ

theorem Ok.stores {K : PySem.W.Frag} {W : Wd} {H : Hp} : ∀ {l : List (Nat × D)} {ρ : Rho} {σ : L2.St} {xs : List V}, Ok K G W ρ σ H → DnA K W H (l.map (·.2)) xs → Ok K G W (storesR ρ l) (stores σ (l.map (·.1)) xs) H
  | [], _, _, _, ok, _ => ok
  | (i, d) :: l, ρ, σ, _, ok, .cons h1 h2 => Ok.stores (l := l) (ok.set (i := i) (d := .d d) h1 fun o => by cases o) h2

/-- the target tg of slots alone -/
def TgtL (X : Cx) (tg : Expr) (f : D → (List (Nat × D) → Prop) → Prop) (g : TG) : Prop := PG X tg g ∧
  ∀ (W : Wd) (H : Hp) (x : V) (d : D) (σ : L2.St) (Q : L2.St → Hp → Prop) (N : List (Nat × D) → Prop), Dn X.K W H d x → f d N → (∀ l xs, N l → DnA X.K W H (l.map (·.2)) xs → Q (stores σ (l.map (·.1)) xs) H) → g x σ H Q

def fName (i : Nat) (d : D) (N : List (Nat × D) → Prop) : Prop := N [(i, d)]

theorem tg_name {i : Nat} {x : Str} (hN : X.N.Nodup) (hi : X.N[i]? = some x := by rfl) (hx : Loc X.env.scope x := by first | exact .inl rfl | exact .inr rfl) (hf : X.fn x = true ∨ X.env.scope.names.lookup x = some .local := by first | exact .inr rfl | exact .inl rfl | assumption) :
    TgtL X (.Name x pos) (fName i) (gName i) :=
  ⟨pg_name hN hi hx hf, fun W H x d σ Q N h f k => k _ [x] f (.cons h .nil)⟩

/-- (x, y, ..): names -/
def fTupN (is : List Nat) (d : D) (N : List (Nat × D) → Prop) : Prop := match d with
  | .tup ds => ds.length = is.length ∧ N (is.zip ds)
  | _ => False

def gNames : List Nat → TGs
  | [] => gNil
  | i :: is => gCons (gName i) (gNames is)

theorem gNames_ok {K : PySem.W.Frag} {W : Wd} {H : Hp} : ∀ {is : List Nat} {ds : List D} {xs : List V} {σ : L2.St} {Q : L2.St → Hp → Prop}, DnA K W H ds xs → ds.length = is.length → Q (stores σ is xs) H → gNames is xs σ H Q
  | [], [], _, _, _, .nil, _, q => ⟨rfl, q⟩
  | i :: is, d :: ds, _, _, _, .cons h1 h2, e, q => ⟨_, _, rfl, gNames_ok h2 (by simpa using e) q⟩
  | [], _ :: _, _, _, _, _, e, _ => by simp at e
  | _ :: _, [], _, _, _, _, e, _ => by simp at e

theorem zip_maps : ∀ {is : List Nat} {ds : List D}, ds.length = is.length → (is.zip ds).map (·.1) = is ∧ (is.zip ds).map (·.2) = ds
  | [], [], _ => ⟨rfl, rfl⟩
  | i :: is, d :: ds, e => by
    obtain ⟨a, b⟩ := zip_maps (is := is) (ds := ds) (by simpa using e)
    exact ⟨by simp [a], by simp [b]⟩
  | [], _ :: _, e => by simp at e
  | _ :: _, [], e => by simp at e

theorem pgs_nm {i : Nat} {x : Str} {is : List Nat} {es : List Expr} (hN : X.N.Nodup) (h2 : PGs X es (gNames is)) (hi : X.N[i]? = some x := by rfl) (hx : Loc X.env.scope x := by first | exact .inl rfl | exact .inr rfl) (hf : X.fn x = true ∨ X.env.scope.names.lookup x = some .local := by first | exact .inr rfl | exact .inl rfl | assumption)
    (hs : (assignEach (.Name x pos :: es) X.env).map (·.2) = assign (.Name x pos) X.env :: (assignEach es X.env).map (·.2) := by rfl) : PGs X (.Name x pos :: es) (gNames (i :: is)) := pgs_cons (pg_name hN hi hx hf) h2 hs

theorem pgs_nm0 : PGs X [] (gNames []) := pgs_nil

theorem tg_tup {es : List Expr} {k : Nat} {is : List Nat} (h : PGs X es (gNames is)) (hc : X.calm = true := by rfl) (hn : (assignEach es X.env).length = is.length := by rfl) (hst : (assignEach es X.env).findIdx? (·.1) = none := by rfl) : TgtL X (.Tuple es k pos) (fTupN is) (gTup X.K is.length (gNames is)) :=
  ⟨pg_tup hc h hn hst, fun W H x d σ Q N hd f q => by
    cases hd <;> first | exact f.elim | skip
    rename_i h1 h2
    obtain ⟨e1, e2⟩ := zip_maps f.1
    refine ⟨_, _, rfl, SeqT.sq h1, by rw [← h2.length]; exact f.1, gNames_ok h2 f.1 ?_⟩
    have := q _ _ f.2 (by rw [e2]; exact h2)
    rwa [e1] at this⟩

/-- target = value, the target of names -/
def wAsgN (f : D → (List (Nat × D) → Prop) → Prop) (w : WE) : WS := fun E ρ => w E.ex ρ fun d ρ' => f d.frz fun l => E.nx (storesR ρ' l)

/-! ### what is walked -/

/-- the iterator J hands out the items ds, whatever grows meanwhile -/
def ItOk (K : PySem.W.Frag) (W : Wd) (H : Hp) (J : It) (ds : List D) : Prop := ∀ (i : Nat) (W1 : Wd) (H1 : Hp), Le W H W1 H1 → Al W1 H1 →
  (ds.length ≤ i → J.stop i H1) ∧ ∀ d, ds[i]? = some d → J.go i H1 ∧ ∀ x H2, J.yld i H1 x H2 → ∃ W2, Step no1 W1 H1 W2 H2 ∧ Al W2 H2 ∧ (W2.C = W1.C ∧ ∀ a ∈ W1.C, H2 a = H1 a) ∧ Dn K W2 H2 d x

abbrev WI := ZK → Rho → (List D → Rho → Prop) → Prop

def lI (K : PySem.W.Frag) (G : Gx) (T : WX) (wi : WI) : TI := fun σ H R => ∃ (W : Wd) (ρ : Rho) (N : List D → Rho → Prop) (Z : ZK), Ok K G W ρ σ H ∧ wi Z ρ N ∧
  (∀ ds ρ' W' H' J, N ds ρ' → Go K G σ ρ W H ρ' W' H' → ItOk K W' H' J ds → R J H') ∧ lZ K G T Z σ ρ W H

def DI (X : Cx) (G : Gx) (T : WX) (tg iter : Expr) (wi : WI) : Prop := PI X tg iter (lI X.K G T wi)

theorem pi_weak {X : Cx} {tg e : Expr} {t t' : TI} (h : PI X tg e t) (i : ∀ σ H R, t' σ H R → t σ H R) : PI X tg e t' := ⟨fun p s σ H Q I q => h.run p s σ H Q I (i σ H Q q)⟩

def wItems (w : WE) : WI := fun Z ρ N => w Z ρ fun d ρ' => ∃ ds, d.frz.items = some ds ∧ N ds ρ'

theorem itl_ok {K : PySem.W.Frag} {W : Wd} {H : Hp} {a : Addr} {xs : List V} {ds : List D} (hs : ∀ W1 H1, Le W H W1 H1 → SqL K H1 a xs) (da : DnA K W H ds xs) : ItOk K W H (Itl K a) ds := fun i W1 H1 l al => by
  refine ⟨fun h => ⟨xs, hs W1 H1 l, by rw [← da.length]; exact h⟩, fun d hd => ?_⟩
  obtain ⟨x, e1, e2⟩ := da.get hd
  refine ⟨⟨xs, x, hs W1 H1 l, e1⟩, fun y H2 ⟨e, q⟩ => ?_⟩
  subst e
  have := q xs (hs W1 _ l)
  rw [e1] at this
  cases this
  exact ⟨W1, .refl _ _ _, al, ⟨rfl, fun _ _ => rfl⟩, e2.le l⟩

theorem itt_ok {K : PySem.W.Frag} {W : Wd} {H : Hp} {a : Addr} {xs : List V} {ds : List D} (hs : ∀ W1 H1, Le W H W1 H1 → SqT K H1 a xs) (da : DnA K W H ds xs) : ItOk K W H (Itt K a) ds := fun i W1 H1 l al => by
  refine ⟨fun h => ⟨xs, hs W1 H1 l, by rw [← da.length]; exact h⟩, fun d hd => ?_⟩
  obtain ⟨x, e1, e2⟩ := da.get hd
  refine ⟨⟨xs, x, hs W1 H1 l, e1⟩, fun y H2 ⟨e, q⟩ => ?_⟩
  subst e
  have := q xs (hs W1 _ l)
  rw [e1] at this
  cases this
  exact ⟨W1, .refl _ _ _, al, ⟨rfl, fun _ _ => rfl⟩, e2.le l⟩

/-- a list or a tuple -/
def iSeq (K : PySem.W.Frag) (tl : TE) : TI := fun σ H R => tl σ H fun x H1 => ∃ a, x = .ref a ∧ (((∃ xs, SqL K H1 a xs) ∧ R (Itl K a) H1) ∨ ((∃ xs, SqT K H1 a xs) ∧ R (Itt K a) H1))

theorem pi_seq {tg l : Expr} {tl : TE} (hl : PE X l tl) : PI X tg l (iSeq X.K tl) := by
  constructor
  intro pins s σ H R I h
  refine thn (hl.run pins s σ H _ I h) fun v t ⟨x, H1, J, rv, a, ea, q⟩ => ?_
  subst ea
  cases rv
  have fr : ∀ b ∈ [t.heap.objs.size], FpOk X pins H1 b := fun b hb => by
    cases List.mem_singleton.mp hb
    exact J.fpOk (Nat.le_refl _) (J.hok.fresh (Nat.le_refl _))
  rcases q with ⟨⟨xs, hq⟩, q⟩ | ⟨⟨xs, hq⟩, q⟩
  · obtain ⟨its, _, pl, _⟩ := J.list hq
    exact wpAny_pyIter_list pl.isList ⟨_, [t.heap.objs.size], _, _, H1, rfl, J.kept (t' := t.toks) fun b o e => Heap.get?_push_of_some _ e, turn_list a _, ⟨_, Heap.get?_push_size _ rfl, rfl, rfl⟩, fr, q⟩
  · obtain ⟨its, _, pl, _⟩ := J.tuple hq
    exact wpAny_pyIter_tuple (show t.heap.IsTuple a its.toArray from pl) ⟨_, [t.heap.objs.size], _, _, H1, rfl, J.kept (t' := t.toks) fun b o e => Heap.get?_push_of_some _ e, turn_tuple a _, ⟨_, Heap.get?_push_size _ rfl, rfl, rfl⟩, fr, q⟩

theorem di_seq {tg : Expr} (he : DE X G T e w) : DI X G T tg e (wItems w) :=
  pi_weak (pi_seq he) fun σ H R ⟨W, ρ, N, Z, ok, h, hN, hZ⟩ => by
    refine lE_then (R := fun d ρ' => ∃ ds, d.items = some ds ∧ N ds ρ') ok h hZ fun d ρ1 W1 x H1 ⟨ds, h1, h2⟩ g1 d1 => ?_
    cases d1 with
    | tup e da =>
      cases h1
      exact ⟨_, rfl, .inr ⟨⟨_, e.sq⟩, hN _ _ _ _ _ h2 g1 (itt_ok (fun W2 H2 l => (e.le l).sq) da)⟩⟩
    | lst f e da =>
      cases h1
      exact ⟨_, rfl, .inl ⟨⟨_, SqL.of e⟩, hN _ _ _ _ _ h2 g1 (itl_ok (fun W2 H2 l => SqL.of ((l.k _ f).trans e)) da)⟩⟩
    | rls e da =>
      cases h1
      exact ⟨_, rfl, .inl ⟨⟨_, e.sq⟩, hN _ _ _ _ _ h2 g1 (itl_ok (fun W2 H2 l => (e.le l).sq) da)⟩⟩
    | _ => cases h1

/-- the ints lo, lo + 1, .. n of them -/
def rangeD (lo : Int) (n : Nat) : List D := (List.range n).map fun i => .int (lo + (i : Nat))

theorem itr_ok {K : PySem.W.Frag} {W : Wd} {H : Hp} {lo : Int} {n : Nat} : ItOk K W H (Itr lo n) (rangeD lo n) := fun i W1 H1 l al => by
  unfold rangeD
  refine ⟨fun h => (show n ≤ i by simpa using h), fun d hd => ?_⟩
  rw [List.getElem?_map] at hd
  by_cases q : i < n
  · rw [List.getElem?_range q] at hd
    cases hd
    refine ⟨q, fun y H2 ⟨e1, e2⟩ => ?_⟩
    subst e1 e2
    exact ⟨W1, .refl _ _ _, al, ⟨rfl, fun _ _ => rfl⟩, .int _⟩
  · rw [List.getElem?_eq_none (by simpa using q)] at hd
    cases hd

def rg1 (ds : List D) (N : List D → Prop) : Prop := match ds with
  | [.int j] => (-(2 ^ 62) ≤ j ∧ j < 2 ^ 62) ∧ N (rangeD 0 j.toNat)
  | _ => False

def rg2 (ds : List D) (N : List D → Prop) : Prop := match ds with
  | [.int i, .int j] => (-(2 ^ 62) ≤ i ∧ i < 2 ^ 62 ∧ -(2 ^ 62) ≤ j ∧ j < 2 ^ 62) ∧ N (rangeD i (j - i).toNat)
  | _ => False

def wRng (f : List D → (List D → Prop) → Prop) (u : WA) : WI := fun Z ρ N => u Z ρ fun ds ρ' => f ds fun l => N l ρ'

theorem di_range1 {tg : Expr} {ta : WA} (ha : DA X G T [a] ta) (hg : Gl X "range") (hm : X.mg "range" = none) (hs : starEach [a] X.env = [(false, eval a X.env)] := by rfl) : DI X G T tg (.Call (.Name "range" p) [a] [] pos) (wRng rg1 ta) :=
  pi_weak (pi_range1 hg hm ha hs) fun σ H R ⟨W, ρ, N, Z, ok, h, hN, hZ⟩ => ⟨W, ρ, _, Z, ok, h, fun ds ρ1 W1 xs H1 h1 g d => by
    have h1 : rg1 ds _ := h1
    unfold rg1 at h1
    split at h1
    · cases d with | cons a b => cases a; cases b; exact ⟨_, rfl, h1.1.1, h1.1.2, hN _ _ _ _ _ h1.2 g itr_ok⟩
    · exact h1.elim, hZ⟩

/-! ### for -/

abbrev TgF := D → (List (Nat × D) → Prop) → Prop

def wForL (f : TgF) (b : WS) (E : DEnds) : List D → Rho → Prop
  | [] => fun ρ => E.nx ρ
  | d :: ds => fun ρ => f d fun l => b { E with nx := wForL f b E ds, ct := wForL f b E ds, bk := E.nx } (storesR ρ l)

def wFor (wi : WI) (f : TgF) (b : WS) : WS := fun E ρ => wi E.ex ρ fun ds ρ1 => wForL f b E ds ρ1

theorem ds_for {tg iter : Expr} {body : List Stmt} {wi : WI} {f : TgF} {g : TG} (hp : PassesOwn (model X.prog X.w) X.A X.env X.xe) (hi : DI X G T tg iter wi) (hg : TgtL X tg f g) (hb : DSs X G T body u) (hc : X.calm = true := by rfl)
    (hs : ∀ x, foldedSetIterable iter X.env x = pure x := by intro _; rfl) : DS X G T (.For tg iter body [] pos) (wFor wi f u) :=
  ps_weak (ps_for hp hc hi hg.1 hb hs) fun D σ H ⟨W, ρ, E, ok, h, hn, hr, hbk, hct, hx⟩ => by
    refine ⟨W, ρ, _, E.ex, ok, h, fun ds ρ1 W1 H1 J h1 g1 it => ?_, hx.z σ ρ⟩
    refine ⟨fun i m σ' H' => ∃ W' ρ', Ok X.K G W' ρ' σ' H' ∧ wForL f u E (ds.drop i) ρ' ∧ Le W1 H1 W' H' ∧ m = ds.length - i ∧ i ≤ ds.length, ⟨ds.length, W1, ρ1, g1.ok, h1, .refl _ _, rfl, Nat.zero_le _⟩, ?_⟩
    rintro i m σ' H' ⟨W', ρ', ok', h', l, rfl, hle⟩
    obtain ⟨q1, q2⟩ := it i W' H' l ok'.al
    have l0 := g1.stp.le.trans l
    by_cases hi : i < ds.length
    · obtain ⟨d, hd⟩ : ∃ d, ds[i]? = some d := ⟨ds[i], List.getElem?_eq_getElem hi⟩
      obtain ⟨go, yl⟩ := q2 d hd
      rw [List.drop_eq_getElem_cons hi] at h'
      have ed : ds[i] = d := by rw [List.getElem?_eq_getElem hi] at hd; exact Option.some.inj hd
      rw [ed] at h'
      have hN : lN X.K G (wForL f u E (ds.drop (i + 1))) (fun σ2 H2 => ∃ W2 ρ2, Ok X.K G W2 ρ2 σ2 H2 ∧ wForL f u E (ds.drop (i + 1)) ρ2 ∧ Le W1 H1 W2 H2) W' H' := fun ρ2 W2 σ2 H2 q o l2 => ⟨W2, ρ2, o, q, l.trans l2⟩
      refine .inr ⟨go, fun σ2 H2 => ∃ W2 ρ2, Ok X.K G W2 ρ2 σ2 H2 ∧ wForL f u E (ds.drop (i + 1)) ρ2 ∧ Le W1 H1 W2 H2, ?_, fun x H2 hy => ?_⟩
      · rintro σ2 H2 ⟨W2, ρ2, o, q, l2⟩
        exact ⟨ds.length - (i + 1), by omega, W2, ρ2, o, q, l2, rfl, by omega⟩
      · obtain ⟨W2, st, al2, ⟨ec, kc⟩, hd2⟩ := yl x H2 hy
        have g2 := ok'.grow0 st al2 ec kc
        refine hg.2 W2 H2 x d σ' _ _ hd2 h' fun lst xs hl da => ?_
        exact lS_on (E := { E with nx := wForL f u E (ds.drop (i + 1)), ct := wForL f u E (ds.drop (i + 1)), bk := E.nx }) (g2.ok.stores da) g2.stp.le hl hN (hr.le l0) (hn.le l0) hN (hx.le l0)
    · have e : i = ds.length := by omega
      subst e
      rw [List.drop_length] at h'
      exact .inl ⟨q1 (Nat.le_refl _), hn ρ' W' σ' H' h' ok' l0⟩

/-! ### comprehensions -/

def wipeR (ρ : Rho) : List Nat → Rho
  | [] => ρ
  | i :: is => (wipeR ρ is).set i none

abbrev noZ : ZK := fun _ _ => False

abbrev noT : WX := fun _ _ _ _ => False

/-- the slots vs hold nothing own -/
def NoOwn (ρ : Rho) (vs : List Nat) : Prop := ∀ i ∈ vs, ∀ d : S, ρ.sl[i]? = some (some d) → d.isOwn = false

def wLcL (f : TgF) (t : WT) (e : WE) (s : Sl) (R : List D → Mem → Prop) : List D → List D → Mem → Prop
  | [], acc, μ => R acc μ
  | d :: ds, acc, μ => f d fun l => t noZ (storesR ⟨s, μ⟩ l) fun b ρ3 => ρ3.sl = (storesR ⟨s, μ⟩ l).sl ∧ if b = true then e noZ ρ3 fun y ρ4 => ρ4.sl = ρ3.sl ∧ acc.length < sizeLine ∧ wLcL f t e s R ds (acc ++ [y.frz]) ρ4.mm else wLcL f t e s R ds acc ρ3.mm

def wLc (wi : WI) (f : TgF) (t : WT) (e : WE) (vs : List Nat) : WE := fun Z ρ R => wi Z ρ fun ds ρ1 => NoOwn ρ1 vs ∧ wLcL f t e (wipeR ρ1 vs).sl (fun acc μ => R (.own acc) ⟨ρ1.sl, μ⟩) ds [] ρ1.mm

def wYes : WT := fun _ ρ R => R true ρ

def DTs (X : Cx) (G : Gx) (T : WX) (ifs : List Expr) (w : WT) : Prop := PTs X ifs (lT X.K G T w)

theorem pts_weak {ifs : List Expr} {t t' : TT} (h : PTs X ifs t) (i : ∀ σ H Q, t' σ H Q → t σ H Q) : PTs X ifs t' := ⟨fun p s σ H Q I q => h.run p s σ H Q I (i σ H Q q)⟩

theorem dts_nil : DTs X G T [] wYes := pts_weak pts_nil fun σ H Q ⟨W, ρ, R, Z, ok, h, hR, _⟩ => hR _ _ _ _ h (.refl ok)

theorem dts_one (h : DT X G T e t) : DTs X G T [e] t := pts_one h

theorem wipe_get {σ : L2.St} {i : Nat} : ∀ {vs : List Nat}, i ∉ vs → (wipe σ vs)[i]? = σ[i]?
  | [], _ => rfl
  | v :: vs, h => by
    simp only [List.mem_cons, not_or] at h
    show ((wipe σ vs).set v none)[i]? = _
    rw [List.getElem?_set_ne (fun q => h.1 q.symm)]
    exact wipe_get h.2

theorem wipeR_some {ρ : Rho} {i : Nat} {d : S} : ∀ {vs : List Nat}, (wipeR ρ vs).sl[i]? = some (some d) → ρ.sl[i]? = some (some d) ∧ i ∉ vs
  | [], h => ⟨h, by simp⟩
  | v :: vs, h => by
    have h' : ((wipeR ρ vs).sl.set v none)[i]? = some (some d) := h
    rcases set_get h' with ⟨_, z⟩ | ⟨z1, z2⟩
    · cases z
    · obtain ⟨a, b⟩ := wipeR_some z2
      exact ⟨a, by simp only [List.mem_cons, not_or]; exact ⟨fun q => z1 q.symm, b⟩⟩

theorem wipeR_mm (ρ : Rho) : ∀ vs, (wipeR ρ vs).mm = ρ.mm
  | [] => rfl
  | v :: vs => wipeR_mm ρ vs

theorem wipe_mem {ρ1 : Rho} {μ : Mem} : ∀ {vs : List Nat}, (⟨(wipeR ρ1 vs).sl, μ⟩ : Rho) = wipeR ⟨ρ1.sl, μ⟩ vs
  | [] => rfl
  | v :: vs => congrArg (fun r : Rho => r.set v none) (wipe_mem (ρ1 := ρ1) (μ := μ) (vs := vs))

theorem wipeR_length (ρ : Rho) : ∀ vs, (wipeR ρ vs).sl.length = ρ.sl.length
  | [] => rfl
  | v :: vs => by show ((wipeR ρ vs).sl.set v none).length = _; rw [List.length_set]; exact wipeR_length ρ vs

theorem Ok.wipe {K : PySem.W.Frag} {σ : L2.St} {ρ : Rho} {W : Wd} {H : Hp} (ok : Ok K G W ρ σ H) (vs : List Nat) : Ok K G W (wipeR ρ vs) (wipe σ vs) H := by
  have ow : ∀ a, Ow (wipeR ρ vs) (L2.wipe σ vs) a → Ow ρ σ a := fun a ⟨i, d, h1, h2, h3⟩ => by
    obtain ⟨a1, a2⟩ := wipeR_some h1
    rw [wipe_get a2] at h3
    exact ⟨i, d, a1, h2, h3⟩
  refine ⟨by rw [wipe_length, wipeR_length, ok.len], fun i d h => ?_, fun a h => ok.frs a (ow a h), fun i j d e a h1 h2 o1 o2 s1 s2 => ?_, ok.al, ok.en, by rw [wipeR_mm]; exact ok.mm⟩
  · obtain ⟨a1, a2⟩ := wipeR_some h
    rw [wipe_get a2]
    exact ok.val i d a1
  · obtain ⟨a1, a2⟩ := wipeR_some h1
    obtain ⟨b1, b2⟩ := wipeR_some h2
    rw [wipe_get a2] at s1
    rw [wipe_get b2] at s2
    exact ok.inj i j d e a a1 b1 o1 o2 s1 s2

/-- only slots of vs are stored -/
def TgIn (f : TgF) (vs : List Nat) : Prop := ∀ d N N', f d N → (∀ l, N l → (∀ p ∈ l, p.1 ∈ vs) → N' l) → f d N'

theorem tin_name {i : Nat} {vs : List Nat} (h : i ∈ vs) : TgIn (fName i) vs := fun d N N' f k => k _ f fun p hp => by
  simp only [List.mem_singleton] at hp; subst hp; exact h

theorem wipe_set {σ : L2.St} {i : Nat} {o : Option V} : ∀ {vs : List Nat}, i ∈ vs → wipe (σ.set i o) vs = wipe σ vs
  | v :: vs, h => by
    show (wipe (σ.set i o) vs).set v none = (wipe σ vs).set v none
    by_cases q : i ∈ vs
    · rw [wipe_set q]
    · have e : i = v := by simpa [q] using h
      subst e
      apply List.ext_getElem?
      intro j
      by_cases qj : i = j
      · subst qj
        simp [List.getElem?_set, wipe_length, List.length_set]
      · rw [List.getElem?_set_ne qj, List.getElem?_set_ne qj]
        have : ∀ (vs : List Nat), (wipe (σ.set i o) vs)[j]? = (wipe σ vs)[j]? := fun vs => by
          induction vs with
          | nil => exact List.getElem?_set_ne qj
          | cons u us ih =>
            show ((wipe (σ.set i o) us).set u none)[j]? = ((wipe σ us).set u none)[j]?
            rw [List.getElem?_set, List.getElem?_set, ih, wipe_length, wipe_length, List.length_set]
        exact this vs

theorem wipe_stores {vs : List Nat} : ∀ {l : List (Nat × D)} {σ : L2.St} {xs : List V}, (∀ p ∈ l, p.1 ∈ vs) → wipe (stores σ (l.map (·.1)) xs) vs = wipe σ vs
  | [], _, _, _ => rfl
  | (i, d) :: l, σ, [], _ => rfl
  | (i, d) :: l, σ, x :: xs, h => by
    show wipe (stores (σ.set i (some x)) (l.map (·.1)) xs) vs = _
    rw [wipe_stores (l := l) (fun p hp => h p (List.mem_cons_of_mem _ hp)), wipe_set (h (i, d) (List.mem_cons_self ..))]

theorem wipe_wipe {σ : L2.St} : ∀ {us vs : List Nat}, (∀ i ∈ us, i ∈ vs) → wipe (wipe σ us) vs = wipe σ vs
  | [], _, _ => rfl
  | u :: us, vs, h => by
    show wipe ((wipe σ us).set u none) vs = _
    rw [wipe_set (h u (List.mem_cons_self ..)), wipe_wipe fun i hi => h i (List.mem_cons_of_mem _ hi)]

theorem ow_wipe {ρ : Rho} {σ : L2.St} {vs : List Nat} {a : Addr} (h : Ow (wipeR ρ vs) (wipe σ vs) a) : Ow ρ σ a := by
  obtain ⟨i, d, h1, h2, h3⟩ := h
  obtain ⟨a1, a2⟩ := wipeR_some h1
  rw [wipe_get a2] at h3
  exact ⟨i, d, a1, h2, h3⟩

theorem ow_stores {K : PySem.W.Frag} {W : Wd} {H : Hp} {a : Addr} : ∀ {l : List (Nat × D)} {ρ : Rho} {σ : L2.St} {xs : List V}, DnA K W H (l.map (·.2)) xs → Ow (storesR ρ l) (stores σ (l.map (·.1)) xs) a → Ow ρ σ a
  | [], _, _, _, _, h => h
  | (i, d) :: l, ρ, σ, _, .cons (x := x) h1 h2, h => by
    obtain ⟨j, e, e1, e2, e3⟩ := ow_stores (l := l) h2 h
    rcases set_get e1 with ⟨z1, z2⟩ | ⟨z1, z2⟩
    · cases z2; cases e2
    · rw [List.getElem?_set_ne z1] at e3
      exact ⟨j, e, z2, e2, e3⟩

/-- an object that nobody else knows is written -/
theorem Ok.write {K : PySem.W.Frag} {σ : L2.St} {ρ : Rho} {W : Wd} {H : Hp} {p : Addr} {o : HO} (ok : Ok K G W ρ σ H) (hf : ¬ W.F p) (hj : ¬ W.J p) (hc : ¬ p ∈ W.C) (h0 : G.H p = none) (ho : ¬ Ow ρ σ p) : Ok K G W ρ σ (upd H p o) := by
  have l : Le W H W (upd H p o) := .same fun a h => upd_ne fun e => hf (by rw [← e]; exact h)
  have kc : ∀ a ∈ W.C, upd H p o a = H a := fun a h => upd_ne fun e => hc (by rw [← e]; exact h)
  refine ⟨ok.len, fun i d h => ?_, ok.frs, ok.inj, ⟨fun a h => ?_, fun a h => ?_, ok.al.d, fun a h => ⟨(ok.al.c a h).1, (ok.al.c a h).2.1, by rw [kc a h]; exact (ok.al.c a h).2.2⟩, ok.al.nd, ok.al.t⟩, ⟨ok.en.le.trans l, ok.en.nF, ok.en.nJ, ok.en.nC, fun a u e nj nc no => ?_, fun a e => ?_⟩, ok.mm.keep l rfl kc⟩
  · obtain ⟨x, e, r⟩ := ok.val i d h
    exact ⟨x, e, r.le l fun o q eq => upd_ne fun z => ho (by rw [← z]; exact ⟨i, d, h, o, by rw [e, eq]⟩)⟩
  · rw [l.k a h]; exact ok.al.f a h
  · exact (ok.al.j a h).le l (upd_ne fun q => hj (by rw [← q]; exact h))
  · rw [upd_ne (ne_of_none e h0)]; exact ok.en.st a u e nj nc no
  · by_cases q : a = p
    · subst q; exact h0
    · rw [upd_ne q] at e; exact ok.en.up a e

theorem Step.write {ow : Addr → Prop} {W W1 : Wd} {H H1 : Hp} {p : Addr} {o : HO} (s : Step ow W H W1 H1) (al : Al W H) (h0 : H p = none) : Step ow W H W1 (upd H1 p o) where
  le := ⟨s.le.F, s.le.J, fun a h => by
    obtain ⟨u, e⟩ := al.f a h
    rw [upd_ne (ne_of_none e h0)]; exact s.le.k a h, s.le.C, s.le.g, s.le.T⟩
  nF := s.nF
  nJ := s.nJ
  nC := s.nC
  st := fun a u e nj nc no => by rw [upd_ne (ne_of_none e h0)]; exact s.st a u e nj nc no
  up := fun a e => by
    by_cases q : a = p
    · subst q; exact h0
    · rw [upd_ne q] at e; exact s.up a e

theorem storesR_ne {i : Nat} : ∀ {l : List (Nat × D)} {ρ : Rho}, (∀ p ∈ l, p.1 ≠ i) → (storesR ρ l).sl[i]? = ρ.sl[i]?
  | [], _, _ => rfl
  | (j, d) :: l, ρ, h => by
    show (storesR (ρ.set j _) l).sl[i]? = _
    rw [storesR_ne (l := l) fun p hp => h p (List.mem_cons_of_mem _ hp)]
    show (ρ.sl.set j _)[i]? = _
    rw [List.getElem?_set_ne (h (j, d) (List.mem_cons_self ..))]

theorem stores_ne {i : Nat} : ∀ {is : List Nat} {σ : L2.St} {xs : List V}, (∀ p ∈ is, p ≠ i) → (stores σ is xs)[i]? = σ[i]?
  | [], _, _, _ => by unfold stores; rfl
  | _ :: _, _, [], _ => by unfold stores; rfl
  | j :: is, σ, x :: xs, h => by
    show (stores (σ.set j _) is xs)[i]? = _
    rw [stores_ne (is := is) fun p hp => h p (List.mem_cons_of_mem _ hp), List.getElem?_set_ne (h j (List.mem_cons_self ..))]

theorem wipeR_ne {ρ : Rho} {i : Nat} : ∀ {vs : List Nat}, i ∉ vs → (wipeR ρ vs).sl[i]? = ρ.sl[i]?
  | [], _ => rfl
  | v :: vs, h => by
    simp only [List.mem_cons, not_or] at h
    show ((wipeR ρ vs).sl.set v none)[i]? = _
    rw [List.getElem?_set_ne (fun q => h.1 q.symm)]
    exact wipeR_ne h.2

/-- behind a block, the slots as they were -/
theorem Ok.unblk {K : PySem.W.Frag} {σ : L2.St} {ρ : Rho} {W W' : Wd} {H H' : Hp} {vs : List Nat} {l : List (Nat × D)} {xs : List V} (ok0 : Ok K G W ρ σ H) (n : NoOwn ρ vs) (hl : ∀ p ∈ l, p.1 ∈ vs)
    {ρb : Rho} (eb : ρb.sl = (storesR (wipeR ρ vs) l).sl) (ok : Ok K G W' ρb (DL.stores (L2.wipe σ vs) (l.map (·.1)) xs) H') (le : Le W H W' H') : Ok K G W' ⟨ρ.sl, ρb.mm⟩ σ H' := by
  have e1 : ∀ i, i ∉ vs → ρb.sl[i]? = ρ.sl[i]? := fun i h => by
    rw [eb, storesR_ne (i := i) (fun p hp q => h (by rw [← q]; exact hl p hp)), wipeR_ne h]
  have e2 : ∀ i, i ∉ vs → (DL.stores (L2.wipe σ vs) (l.map (·.1)) xs)[i]? = σ[i]? := fun i h => by
    rw [stores_ne (fun p hp q => ?_), wipe_get h]
    obtain ⟨z, hz, rfl⟩ := List.mem_map.mp hp
    exact h (by rw [← q]; exact hl z hz)
  have nv : ∀ (i : Nat) (d : S), ρ.sl[i]? = some (some d) → d.isOwn = true → i ∉ vs := fun i d h o q => by rw [n i q d h] at o; cases o
  refine ⟨ok0.len, fun i d h => ?_, fun a ⟨i, d, h1, h2, h3⟩ => ?_, fun i j d e a h1 h2 o1 o2 s1 s2 => ?_, ok.al, ok.en, ok.mm⟩
  · by_cases q : i ∈ vs
    · obtain ⟨x, e, r⟩ := ok0.val i d h
      refine ⟨x, e, r.le le fun o => ?_⟩
      rw [n i q d h] at o; cases o
    · rw [← e2 i q]; exact ok.val i d (by rw [e1 i q]; exact h)
  · have q := nv i d h1 h2
    exact ok.frs a ⟨i, d, by rw [e1 i q]; exact h1, h2, by rw [e2 i q]; exact h3⟩
  · have q := nv i d h1 o1
    have q' := nv j e h2 o2
    exact ok.inj i j d e a (by rw [e1 i q]; exact h1) (by rw [e1 j q']; exact h2) o1 o2 (by rw [e2 i q]; exact s1) (by rw [e2 j q']; exact s2)

theorem lE_lc {K : PySem.W.Frag} {X' : Cx} (hK : X'.K = K) {wi : WI} {f : TgF} {g : TG} {tg : Expr} {te : WE} {vs : List Nat} (hg : TgtL X' tg f g) (hin : TgIn f vs) {σ : L2.St} {H : Hp} {Q : VK} (h : lE K G T (wLc wi f t te vs) σ H Q) :
    tLc (lI K G T wi) g (lT K G noT t) (lE K G noT te) vs σ H Q := by
  subst hK
  obtain ⟨W, ρ, R, Z, ok, h, hR, hZ⟩ := h
  refine ⟨W, ρ, _, Z, ok, h, fun ds ρ1 W1 H1 J ⟨hno, h1⟩ g1 it D hD => ?_, hZ⟩
  have al1 := g1.ok.al
  have hD0 : G.H D = none := g1.ok.upG hD
  have nOD : ¬ Ow ρ1 σ D := fun q => by
    obtain ⟨o, e⟩ := g1.ok.here q
    rw [hD] at e; cases e
  have start := Go.new (o := .lst []) g1.ok hD
  refine ⟨fun i m H' => ∃ W' μ acc xs, Ok X'.K G W' ⟨ρ1.sl, μ⟩ σ H' ∧ H' D = some (.lst xs) ∧ DnA X'.K W' H' acc xs ∧ ¬ W'.F D ∧ (¬ W'.J D ∧ ¬ D ∈ W'.C) ∧ wLcL f t te (wipeR ρ1 vs).sl (fun acc μ => R (.own acc) ⟨ρ1.sl, μ⟩) (ds.drop i) acc μ ∧ Step (Ow ρ1 σ) W1 H1 W' H' ∧ m = ds.length - i ∧ i ≤ ds.length, ?_, ?_⟩
  · refine ⟨ds.length, W1, ρ1.mm, [], [], start.ok, upd_same, .nil, fun q => ?_, ⟨fun q => ?_, fun q => ?_⟩, h1, start.stp, rfl, Nat.zero_le _⟩
    · obtain ⟨o, e⟩ := al1.f D q; rw [hD] at e; cases e
    · obtain ⟨u, e⟩ := (al1.j D q).some; rw [hD] at e; cases e
    · obtain ⟨_, _, o, e⟩ := al1.c D q; rw [hD] at e; cases e
  rintro i m H' ⟨W', μ, acc, xs, ok', eD, da, nF, ⟨nJ, nC⟩, h', st, rfl, hle⟩
  obtain ⟨q1, q2⟩ := it i W' H' st.le ok'.al
  by_cases hi : i < ds.length
  · obtain ⟨d, hd⟩ : ∃ d, ds[i]? = some d := ⟨ds[i], List.getElem?_eq_getElem hi⟩
    obtain ⟨go, yl⟩ := q2 d hd
    have ed : ds[i] = d := by rw [List.getElem?_eq_getElem hi] at hd; exact Option.some.inj hd
    rw [List.drop_eq_getElem_cons hi, ed] at h'
    refine .inr ⟨go, fun H2 => ∃ W' μ acc xs, Ok X'.K G W' ⟨ρ1.sl, μ⟩ σ H2 ∧ H2 D = some (.lst xs) ∧ DnA X'.K W' H2 acc xs ∧ ¬ W'.F D ∧ (¬ W'.J D ∧ ¬ D ∈ W'.C) ∧ wLcL f t te (wipeR ρ1 vs).sl (fun acc μ => R (.own acc) ⟨ρ1.sl, μ⟩) (ds.drop (i + 1)) acc μ ∧ Step (Ow ρ1 σ) W1 H1 W' H2, ?_, fun x H2 hy => ?_⟩
    · rintro H2 ⟨W2, μ2, acc2, xs2, o, e, da2, f1, f2, q, s2⟩
      exact ⟨ds.length - (i + 1), by omega, W2, μ2, acc2, xs2, o, e, da2, f1, f2, q, s2, rfl, by omega⟩
    · obtain ⟨W2, st2, al2, ⟨ec, kc⟩, hd2⟩ := yl x H2 hy
      have g2 := ok'.grow0 st2 al2 ec kc
      have okb := g2.ok.wipe vs
      have ew : (⟨(wipeR ρ1 vs).sl, μ⟩ : Rho) = wipeR ⟨ρ1.sl, μ⟩ vs := wipe_mem
      refine hg.2 W2 H2 x d (wipe σ vs) _ _ hd2 (hin d _ _ h' fun l hl hv => (⟨hl, hv⟩ : _ ∧ ∀ p ∈ l, p.1 ∈ vs)) fun l xs' ⟨hl, hv⟩ dl => ?_
      have ok3 := okb.stores dl
      rw [ew] at hl
      have owS : ∀ a, Ow (storesR (wipeR ⟨ρ1.sl, μ⟩ vs) l) (stores (wipe σ vs) (l.map (·.1)) xs') a → Ow ρ1 σ a := fun a q => ow_wipe (ρ := ⟨ρ1.sl, μ⟩) (ow_stores dl q)
      have nD2 : W2.F D → False := fun q => (st2.nF D q).elim nF fun z => z.elim (fun e => by rw [eD] at e; cases e) id
      have nJ2 : W2.J D → False := fun q => (st2.nJ D q).elim nJ fun e => by rw [eD] at e; cases e
      have nC2 : D ∈ W2.C → False := fun q => nC (by rw [← ec]; exact q)
      have eD2 : H2 D = some (.lst xs) := st2.st D _ eD nJ nC fun q => q
      have sA : Step (Ow ρ1 σ) W1 H1 W2 H2 := st.trans st2 fun _ q => q.elim
      refine ⟨by rw [wipe_stores hv, wipe_wipe fun _ h => h], ?_⟩
      refine ⟨W2, _, _, noZ, ok3, hl, fun b ρ3 W3 H3 ⟨e3, hb⟩ g3 => ?_, fun _ _ _ _ _ _ q => q.elim⟩
      have owS3 : ∀ a, Ow ρ3 (stores (wipe σ vs) (l.map (·.1)) xs') a → Ow ρ1 σ a := fun a q => owS a (g3.sub a q)
      have nD3 : W3.F D → False := fun q => (g3.stp.nF D q).elim nD2 fun z => z.elim (fun e => by rw [eD2] at e; cases e) fun q => nOD (owS D q)
      have nJ3 : W3.J D → False := fun q => (g3.stp.nJ D q).elim nJ2 fun e => by rw [eD2] at e; cases e
      have nC3 : D ∈ W3.C → False := fun q => (g3.stp.nC D q).elim nC2 fun e => by rw [eD2] at e; cases e
      have eD3 : H3 D = some (.lst xs) := g3.stp.st D _ eD2 nJ2 nC2 fun q => nOD (owS D q)
      have sB : Step (Ow ρ1 σ) W1 H1 W3 H3 := sA.trans g3.stp fun a q => .inl (owS a q)
      cases b with
      | false =>
        simp only [Bool.false_eq_true, if_false] at hb ⊢
        exact ⟨W3, ρ3.mm, acc, xs, ok'.unblk (ρ := ⟨ρ1.sl, μ⟩) hno hv e3 g3.ok (st2.le.trans g3.stp.le), eD3, da.le (st2.le.trans g3.stp.le), nD3, ⟨nJ3, nC3⟩, hb, sB⟩
      | true =>
        simp only [if_true] at hb ⊢
        refine lE_then (T := noT) (R := fun y ρ4 => ρ4.sl = ρ3.sl ∧ acc.length < sizeLine ∧ wLcL f t te (wipeR ρ1 vs).sl (fun acc μ => R (.own acc) ⟨ρ1.sl, μ⟩) (ds.drop (i + 1)) (acc ++ [y]) ρ4.mm) g3.ok hb (fun _ _ _ _ _ _ q => q.elim) fun y ρ4 W4 z H4 ⟨e4, hlen, h4⟩ g4 d4 => ?_
        have nD4 : W4.F D → False := fun q => (g4.stp.nF D q).elim nD3 fun z => z.elim (fun e => by rw [eD3] at e; cases e) fun q => nOD (owS3 D q)
        have nJ4 : W4.J D → False := fun q => (g4.stp.nJ D q).elim nJ3 fun e => by rw [eD3] at e; cases e
        have nC4 : D ∈ W4.C → False := fun q => (g4.stp.nC D q).elim nC3 fun e => by rw [eD3] at e; cases e
        have eD4 : H4 D = some (.lst xs) := g4.stp.st D _ eD3 nJ3 nC3 fun q => nOD (owS3 D q)
        have l4 : Le W' H' W4 H4 := (st2.le.trans g3.stp.le).trans g4.stp.le
        have lw : Le W4 H4 W4 (upd H4 D (.lst (xs ++ [z]))) := .same fun a h => upd_ne fun e => nD4 (by rw [← e]; exact h)
        refine ⟨xs, eD4, by rw [← da.length]; exact hlen, W4, ρ4.mm, acc ++ [y], xs ++ [z], (ok'.unblk (ρ := ⟨ρ1.sl, μ⟩) hno hv (e4.trans e3) g4.ok l4).write nD4 nJ4 nC4 hD0 nOD, upd_same, ((da.le l4).append (.cons d4 .nil)).le lw, nD4, ⟨nJ4, nC4⟩, h4, ?_⟩
        exact (sB.trans g4.stp fun a q => .inl (owS3 a q)).write al1 hD
  · have e : i = ds.length := by omega
    subst e
    rw [List.drop_length] at h'
    refine .inl ⟨q1 (Nat.le_refl _), hR (.own acc) ⟨ρ1.sl, μ⟩ W' (.ref D) H' h' (g1.trans ⟨ok', st, fun _ q => q⟩) ⟨⟨D, xs, rfl, eD, da⟩, fun _ p e => ?_⟩⟩
    cases e
    exact ⟨nF, nJ, nC, g1.stp.up D hD⟩

theorem de_lc {elt tg iter : Expr} {ifs : List Expr} {scope : Scope} {own : List (Str × Nat)} {wi : WI} {f : TgF} {g : TG} {te : WE} (hN : X.N.Nodup) (hi : DI X G T tg iter wi) (ok : BlkOk X.N X.env.scope scope own)
    (hg : ∀ (s : Shared) (H : Hp) (C : Addr) (cl : List (Str × Addr)) (fp : List Addr), TgtL (X.blk s H scope (compEnvC scope cl C X.env) fp) tg f g) (hin : TgIn f (own.map (·.2)))
    (ht : ∀ (s : Shared) (H : Hp) (C : Addr) (cl : List (Str × Addr)) (fp : List Addr), DTs (X.blk s H scope (compEnvC scope cl C X.env) fp) G noT ifs t)
    (he : ∀ (s : Shared) (H : Hp) (C : Addr) (cl : List (Str × Addr)) (fp : List Addr), DE (X.blk s H scope (compEnvC scope cl C X.env) fp) G noT elt te) (hc : X.calm = true := by rfl) (hs : ∀ x, foldedSetIterable iter X.env x = pure x := by intro _; rfl) :
    DE X G T (.ListComp elt [⟨tg, iter, ifs, 0⟩] scope pos) (wLc wi f t te (own.map (·.2))) :=
  ⟨fun pins s σ H Q I h => (pe_lc (tt := lT X.K G noT t) (te := lE X.K G noT te) hc hN hi ok (fun s H C cl fp => (hg s H C cl fp).1) ht he hs).run pins s σ H Q I (lE_lc (X' := X.blk s H scope (compEnvC scope [] 0 X.env) []) rfl (hg s H 0 [] []) hin h)⟩

theorem ds_setLc {i : Nat} {y : Str} {py : Pos} {elt tg iter : Expr} {ifs : List Expr} {scope : Scope} {own : List (Str × Nat)} {spos : Pos} {wi : WI} {f : TgF} {g : TG} {te : WE} (hN : X.N.Nodup) (hi : DI X G T tg iter wi) (ok : BlkOk X.N X.env.scope scope own)
    (hg : ∀ (s : Shared) (H : Hp) (C : Addr) (cl : List (Str × Addr)) (fp : List Addr), TgtL (X.blk s H scope (compEnvC scope cl C X.env) fp) tg f g) (hin : TgIn f (own.map (·.2)))
    (ht : ∀ (s : Shared) (H : Hp) (C : Addr) (cl : List (Str × Addr)) (fp : List Addr), DTs (X.blk s H scope (compEnvC scope cl C X.env) fp) G noT ifs t)
    (he : ∀ (s : Shared) (H : Hp) (C : Addr) (cl : List (Str × Addr)) (fp : List Addr), DE (X.blk s H scope (compEnvC scope cl C X.env) fp) G noT elt te)
    (hsw : swapsWith (.ListComp elt [⟨tg, iter, ifs, 0⟩] scope pos) (some (.Name y py)) spos.line X.env = pure true) (hy : X.N[i]? = some y := by rfl) (hyl : X.env.scope.names.lookup y = some .local := by rfl) (hc : X.calm = true := by rfl)
    (hs : ∀ x, foldedSetIterable iter X.env x = pure x := by intro _; rfl) :
    DS X G T (.Assign [.Name y py] (.ListComp elt [⟨tg, iter, ifs, 0⟩] scope pos) spos) (wSet i (wLc wi f t te (own.map (·.2)))) :=
  ⟨fun pins s σ H D I h => (ps_setLc (tt := lT X.K G noT t) (te := lE X.K G noT te) hc hN hy hyl hsw hi ok (fun s H C cl fp => (hg s H C cl fp).1) ht he hs).run pins s σ H D I (lS_set (fun Q q => lE_lc (X' := X.blk s H scope (compEnvC scope [] 0 X.env) []) rfl (hg s H 0 [] []) hin q) h)⟩

end

end DL







/-! DL4: defs over data, their calls, the law's end. -/

namespace DL

open PySem PySem.Spec L2

/-- behind a call -/
structure Ret (K : PySem.W.Frag) (W : Wd) (H : Hp) (W' : Wd) (H' : Hp) (d : S) (μ : Mem) (x : V) : Prop where
  al : Al W' H'
  stp : Step no1 W H W' H'
  res : Res K H W' H' d x
  mm : Cells K W' μ H'

structure RetX (K : PySem.W.Frag) (W : Wd) (H : Hp) (W' : Wd) (H' : Hp) (x : Exn) (μ : Mem) (c : Value) (dx : Option Addr) : Prop where
  al : Al W' H'
  stp : Step no1 W H W' H'
  ex : ExAt K W' H' x c dx
  mm : Cells K W' μ H'

/-- the def at f does over data what wf says; k: how deep it calls -/
def FnG (P : Program) (w : World) (K : PySem.W.Frag) (mg : Str → Option Value) (base : Heap) (k : Nat) (f : Addr) (fd : FuncData) (ps : List Str) (wf : WF) : Prop :=
  ∀ (A : Around) (outer : List PySem.Env) (s : Shared) (H : Hp) (args : Args) (us : List Value) (vs : List V) (ds : List D) (W : Wd) (μ : Mem) (R : S → Mem → Prop) (Z : Exn → Mem → Prop) (Q : VK) (E : XK),
    A.guards = some [] → Room k A → Env0 P w K mg base A outer s H → BindsTo s fd args (ps.zip us) → Vals vs us → ds.length = ps.length → Al W H → Cells K W μ H → W.g = mg → DnA K W H ds vs → wf Z ds μ R →
    (∀ d μ' W' x H', R d μ' → Ret K W H W' H' d μ' x → Q x H') → (∀ x μ' W' H' c dx, Z x μ' → RetX K W H W' H' x μ' c dx → E c dx H') →
    codeAny (model P w) A (.call (.ref f) args) (CR (L2.CX P w) outer P w H s Q E) s

/-- what a body's context gives -/
structure CxG (X : Cx) (T : WX) (k : Nat) : Prop where
  tk : Takes X T
  gd : X.A.guards = some []
  rm : Room k X.A
  po : PassesOwn (model X.prog X.w) X.A X.env X.xe

theorem CxG.u64 {X : Cx} {T : WX} {k : Nat} (c : CxG X T k) : X.A.units + 64 < cLine := c.rm.units

theorem takes_no {X : Cx} : Takes X noT := fun u s' h => by
  obtain ⟨_, _, _, _, _, _, _, _, _, _, _, _, _, _, _, _, z⟩ := h
  exact z.elim

theorem CxG.blk {X : Cx} {T : WX} {k : Nat} (c : CxG X T k) (s : Shared) (H : Hp) (sc : Scope) (e : PySem.Env) (fp : List Addr) (po : PassesOwn (model X.prog X.w) X.A e fun _ _ => False) : CxG (X.blk s H sc e fp) noT k :=
  ⟨takes_no, c.gd, c.rm, po⟩

def sl0 (N : List Str) (ds : List D) : Sl := ds.map (fun d => some (.d d)) ++ List.replicate (N.length - ds.length) none

def rho0 (N : List Str) (ds : List D) (μ : Mem) : Rho := ⟨sl0 N ds, μ⟩

theorem start_ok {K : PySem.W.Frag} {W : Wd} {H : Hp} {N : List Str} {ds : List D} {vs : List V} {μ : Mem} (al : Al W H) (mm : Cells K W μ H) (h : DnA K W H ds vs) : Ok K ⟨W, H⟩ W (rho0 N ds μ) (L2.start N vs) H := by
  have hl := h.length
  have noO : ∀ (i : Nat) (d : S), (sl0 N ds)[i]? = some (some d) → ∃ e, d = .d e ∧ ds[i]? = some e := fun i d e => by
    unfold sl0 at e
    by_cases q : i < ds.length
    · rw [List.getElem?_append_left (by rw [List.length_map]; exact q), List.getElem?_map] at e
      cases z : ds[i]? with
      | none => rw [z] at e; cases e
      | some y => rw [z] at e; cases e; exact ⟨y, rfl, rfl⟩
    · rw [List.getElem?_append_right (by rw [List.length_map]; omega), List.getElem?_replicate] at e
      split at e <;> cases e
  refine ⟨?_, fun i d e => ?_, fun a ⟨i, d, e, o, _⟩ => ?_, fun i j d e a h1 h2 o1 => ?_, al, .refl _ _ _, mm⟩
  · unfold L2.start rho0 sl0
    dsimp only
    rw [List.length_append, List.length_append, List.length_map, List.length_map, List.length_replicate, List.length_replicate, hl]
  · obtain ⟨y, rfl, hy⟩ := noO i d e
    obtain ⟨x, e1, e2⟩ := h.get hy
    refine ⟨x, ?_, e2⟩
    unfold L2.start
    rw [List.getElem?_append_left (by rw [List.length_map]; exact (List.getElem?_eq_some_iff.mp e1).1), List.getElem?_map, e1]
    rfl
  · obtain ⟨y, rfl, _⟩ := noO i d e; cases o
  · obtain ⟨y, rfl, _⟩ := noO i d h1; cases o1

section

variable {P : Program} {w : World} {K : PySem.W.Frag} {mg : Str → Option Value} {base : Heap}

/-- THE RULE for a def -/
theorem ok_def {x qual : Str} {st : Stmt} {f : Addr} {fd : FuncData} {N ps : List Str} {k : Nat} {wf : WF} {wb : WS} (F : Fun K x qual st f fd) (Sc : FnScope N ps (defScope st))
    (hw : ∀ Z ds μ R, ds.length = ps.length → wf Z ds μ R → wb ⟨fun ρ => R (.d .non) ρ.mm, R, fun _ => False, fun _ => False, fun x ρ => Z x ρ.mm⟩ (rho0 N ds μ))
    (hb : ∀ (cdv : Value) (A : Around) (outer : List PySem.Env) (s : Shared) (H : Hp) (E : XK) (W : Wd), W.g = mg → CxG (cxOf (L2.CX P w) P w K mg base N qual (defScope st) f cdv A outer s H E) (fun cls d _ H => E cls d H) k →
      DSs (cxOf (L2.CX P w) P w K mg base N qual (defScope st) f cdv A outer s H E) ⟨W, H⟩ (fun cls d _ H => E cls d H) (defBody st) wb) :
    FnG P w K mg base (k + 1) f fd ps wf := by
  intro A outer s H args us vs ds W μ R Z Q E hg hr e0 hbd r hlen al mm hgm da hwf hQ hE
  obtain ⟨oc, od, kV, doc, pm, an, cdv, ct, osl, rfl, lk, hcd⟩ := F.ex
  have hl : vs.length = ps.length := by rw [← da.length]; exact hlen
  have inK : K.In s.heap := e0.mod.kin.keeps fun b o q => (e0.bs b o q).1
  have noLim : s.heap.NoLimit := e0.mod.nolimit.keeps fun b o q => (e0.bs b o q).1
  have kinds : ∀ y ∈ ps.zip us, (defScope st).names.lookup y.1 = some .local ∨ ((defScope st).names.lookup y.1 = some .cell ∧ ((cellsFrom (s.heap.objs.size + 1) (defScope st).names []).lookup y.1).isSome = true) := fun ⟨n, v⟩ hy =>
    (Sc.par n (List.of_mem_zip hy).1).imp id fun q => ⟨q, PySem.W.cellsFrom_some _ _ _ (.inl q)⟩
  refine codeAny_call_function hr.depth (inK _ _ lk) rfl Sc.co Sc.gen rfl (PySem.W.codeRec_of inK hcd) (hbd _ _ _ _ ?_)
  refine wpAny_newFunctionEnv_cells Sc.kind kinds fun env he s1 xx => ?_
  subst he
  refine ⟨noLim.keeps xx.toInCall.keep, codeAny_func ?_⟩
  have I : Inv (cxOf (L2.CX P w) P w K mg base N qual (defScope st) f cdv A outer s H E) [] (L2.start N vs) H s1 := inv_start Sc hr.hd e0 hl r xx
  have C : CxG (cxOf (L2.CX P w) P w K mg base N qual (defScope st) f cdv A outer s H E) (fun cls d _ H => E cls d H) k :=
    ⟨takes_of rfl rfl rfl rfl, hg, hr.deeper _, passes_of rfl⟩
  have D := hb cdv A outer s H E W hgm C
  have body := hw Z ds μ R hlen hwf
  have ok0 := start_ok (N := N) al mm da
  refine wpAny_mono (D.run [] s1 (L2.start N vs) H { nx := fun _ H' => Q .non H', rt := Q } I ⟨W, rho0 N ds μ, _, ok0, body, fun ρ' W' σ' H' h o l => ?_, fun d ρ' W' σ' y H' h o l rr => ?_, fun _ _ _ _ q => q.elim, fun _ _ _ _ q => q.elim, fun z ρ' W' σ' H' c dx h o l ex => ?_⟩) (fun fl s' hs => ?_) fun e s' hs => hs
  · exact hQ _ _ W' _ H' h ⟨o.al, o.en, .of .non, o.mm⟩
  · exact hQ _ _ W' _ H' h ⟨o.al, o.en, rr, o.mm⟩
  · exact hE _ _ W' _ _ _ h ⟨o.al, o.en, ex, o.mm⟩
  have fin : ∀ {σ' : L2.St} {H' : Hp} {v : V} {u : Value}, Inv (cxOf (L2.CX P w) P w K mg base N qual (defScope st) f cdv A outer s H E) [] σ' H' s' → RelV v u → Q v H' → CE outer P w H s Q u s' :=
    fun {σ' H' v u} J rv q => ⟨v, H', J.os, J.bare, J.base, J.hok, rv, q⟩
  match fl, hs with
  | .ret u, ⟨v, σ', H', J, rv, q⟩ => exact fin J rv q
  | .next, ⟨σ', H', J, q⟩ => exact fin (v := V.non) (u := Value.none) J rfl q
  | .brk, ⟨_, _, _, q⟩ => exact False.elim q
  | .cont, ⟨_, _, _, q⟩ => exact False.elim q

/-- a promise told otherwise -/
theorem FnG.imp {k : Nat} {f : Addr} {fd : FuncData} {ps : List Str} {wf wf' : WF} (F : FnG P w K mg base k f fd ps wf) (h : ∀ Z ds μ R, ds.length = ps.length → wf' Z ds μ R → wf Z ds μ R) : FnG P w K mg base k f fd ps wf' :=
  fun A outer s H args us vs ds W μ R Z Q E hg hr e0 hbd r hlen al mm hgm da hwf hQ hE => F A outer s H args us vs ds W μ R Z Q E hg hr e0 hbd r hlen al mm hgm da (h Z ds μ R hlen hwf) hQ hE

theorem FnG.mono {j k : Nat} {f : Addr} {fd : FuncData} {ps : List Str} {wf : WF} (F : FnG P w K mg base j f fd ps wf) (h : j ≤ k) : FnG P w K mg base k f fd ps wf :=
  fun A outer s H args us vs ds W μ R Z Q E hg hr => F A outer s H args us vs ds W μ R Z Q E hg (hr.mono h)

end

/-! ### calls -/

section

variable {X : Cx} {G : Gx} {T : WX} {k j : Nat} {f : Addr} {fd : FuncData} {ps : List Str} {wf : WF}

theorem run_g {pins : List (Addr × Obj)} {σ : L2.St} {ρ : Rho} {W : Wd} {H : Hp} {s : Shared} {args : Args} {us : List Value} {vs : List V} {ds : List D} {R : S → Mem → Prop} {Z : Exn → Mem → Prop} {Q : VK} (C : CxG X T k) (hG : G.W.g = X.mg) (F : FnG X.prog X.w X.K X.mg X.base j f fd ps wf) (hj : j ≤ k)
    (hb : BindsTo s fd args (ps.zip us)) (I : Inv X pins σ H s) (r : Vals vs us) (hl : ds.length = ps.length) (ok : Ok X.K G W ρ σ H) (da : DnA X.K W H ds vs) (h : wf Z ds ρ.mm R)
    (hR : ∀ d μ W' x H', R d μ → Go X.K G σ ρ W H ⟨ρ.sl, μ⟩ W' H' → Res X.K H W' H' d x → Q x H') (hZ : ∀ x μ W' H' c dx, Z x μ → Go X.K G σ ρ W H ⟨ρ.sl, μ⟩ W' H' → ExAt X.K W' H' x c dx → T c dx σ H') :
    codeAny (model X.prog X.w) X.A (.call (.ref f) args) (fun r s' => match r with | .ok (.ret u) => EP X pins σ Q u s' | .ok _ => False | .error e => X.xe e s') s := by
  refine codeAny_mono (F X.A X.stack s H args us vs ds W ρ.mm R Z Q (fun c dx H' => T c dx σ H') C.gd (C.rm.mono hj) I.env0 hb r hl ok.al ok.mm (ok.en.le.g.trans hG) da h
    (fun d μ W' x H' hr rt => hR d μ W' x H' hr (ok.grow rt.stp rt.al rt.mm) rt.res) fun x μ W' H' c dx hz rt => hZ x μ W' H' c dx hz (ok.grow rt.stp rt.al rt.mm) rt.ex) fun r s' hq => ?_
  match r, hq with
  | .error e, hq => exact C.tk e s' (XE.of_call (W := T) I (fun _ _ _ q => q) hq)
  | .ok (.ret u), hq => exact I.after hq

/-- f(..): the arguments, then the def -/
def wCall (n : Nat) (wf : WF) (u : WA) : WE := fun Z ρ R => u Z ρ fun ds ρ1 => ds.length = n ∧ wf (fun x μ => Z x ⟨ρ1.sl, μ⟩) ds ρ1.mm fun s μ => R s ⟨ρ1.sl, μ⟩

theorem wp_call {pins : List (Addr × Obj)} {σ : L2.St} {H : Hp} {s : Shared} {Q : VK} {us : List Value} {vs : List V} {W : Wd} {ρ : Rho} {ds : List D} {R : S → Mem → Prop} {Z : Exn → Mem → Prop} (C : CxG X T k) (hG : G.W.g = X.mg) (F : FnG X.prog X.w X.K X.mg X.base j f fd ps wf) (hj : j ≤ k) (hb : Binds X.K fd ps [])
    (I : Inv X pins σ H s) (r : Vals vs us) (hl : ds.length = ps.length) (ok : Ok X.K G W ρ σ H) (da : DnA X.K W H ds vs) (h : wf Z ds ρ.mm R)
    (hR : ∀ d μ W' x H', R d μ → Go X.K G σ ρ W H ⟨ρ.sl, μ⟩ W' H' → Res X.K H W' H' d x → Q x H') (hZ : ∀ x μ W' H' c dx, Z x μ → Go X.K G σ ρ W H ⟨ρ.sl, μ⟩ W' H' → ExAt X.K W' H' x c dx → T c dx σ H') :
    wpAny (model X.prog X.w) X.A (call (.ref f) us) (EP X pins σ Q) X.xe s := by
  have e : (us ++ ([] : List Value)).length = ps.length := by rw [List.append_nil, ← r.length, ← da.length]; exact hl
  have hb' := hb s us I.kIn e
  rw [List.append_nil] at hb'
  refine wpAny_call (codeAny_mono (run_g C hG F hj hb' I r hl ok da h hR hZ) fun r s' hq => ?_)
  match r, hq with
  | .error e, hq => exact hq
  | .ok (.ret u), hq => exact hq

theorem de_call {x : Str} {p pos : Pos} {e : Expr} {es : List Expr} {u : WA} (C : CxG X T k) (hG : G.W.g = X.mg) (F : FnG X.prog X.w X.K X.mg X.base j f fd ps wf) (hj : j ≤ k) (hm : X.mg x = some (.ref f)) (hk : PySem.W.keepIn X.K (.ref f) = true) (hb : Binds X.K fd ps [])
    (ha : DA X G T (e :: es) u) (hg : Gl X x := by rfl) (hdb : (x == ("__debug__" : Str)) = false := by decide) (he : starEach (e :: es) X.env = (false, eval e X.env) :: starEach es X.env := by rfl) (hpl : (backTo pos (starEach es X.env)).any (·.1) = false := by rfl) :
    DE X G T (.Call (.Name x p) (e :: es) [] pos) (wCall ps.length wf u) := by
  refine ⟨fun pins s σ H Q I ⟨W, ρ, R, Z, ok, h, hR, hZ⟩ => ?_⟩
  refine wpAny_Call_Name_kw (ld_glob I hg hm ?_ hdb)
  have args : lA X.K G T u σ H fun vs H1 => ∃ ds W1 ρ1, Go X.K G σ ρ W H ρ1 W1 H1 ∧ DnA X.K W1 H1 ds vs ∧ ds.length = ps.length ∧ wf (fun x μ => Z x ⟨ρ1.sl, μ⟩) ds ρ1.mm fun s μ => R s ⟨ρ1.sl, μ⟩ :=
    ⟨W, ρ, _, Z, ok, h, fun ds ρ1 W1 xs H1 ⟨h1, h2⟩ g d => ⟨ds, W1, ρ1, g, d, h1, h2⟩, hZ⟩
  refine PySem.W.callWith_K (h₀ := X.base) I.ok.mod.kin hk (thn (ha.run pos pins s σ H _ I args) fun us s1 ⟨vs, H1, I1, r, ds, W1, ρ1, g, d, h1, h2⟩ => ⟨I1.kIn, ?_⟩) he hpl
  exact wp_call C hG F hj hb I1 r h1 g.ok d h2 (fun d μ W' x H' hr g' rs => hR d _ W' x H' hr (g.trans g') (rs.up g.stp.up)) fun x μ W' H' c dx hz g' ex => hZ x _ W' H' c dx hz (g.trans g') ex

end

/-! ### the law -/

/-- what the tables of the laws' lambdas ask of the start -/
structure TabsAt (K : PySem.W.Frag) (h : Heap) : Prop where
  at_ : ∀ x c P, x ∈ lamDefs → PySem.W.tabIn K x = some (c, P) → PySem.W.CodeHd h c P ∧ h.get? P = some { cls := .none, data := .fields #[] }
  no : ∀ P q, (P, q) ∈ lamTabs K → K.lookup P = none
  nd : ∀ P q q', (P, q) ∈ lamTabs K → (P, q') ∈ lamTabs K → q' = q

/-- .. of the base -/
def TabsB (K : PySem.W.Frag) (mg : Str → Option Value) (base : Heap) : Prop := ∀ x c P, x ∈ lamDefs → PySem.W.tabIn K x = some (c, P) → LamX.TabB base mg c P

theorem lamTabs_mem {K : PySem.W.Frag} {P : Addr} {q : Str} (h : (P, q) ∈ lamTabs K) : ∃ x c, x ∈ lamDefs ∧ PySem.W.tabIn K x = some (c, P) ∧ q = x ++ ".<locals>." ++ "<lambda>" := by
  unfold lamTabs at h
  obtain ⟨x, h1, h2⟩ := List.mem_filterMap.mp h
  cases e : PySem.W.tabIn K x with
  | none => rw [e] at h2; cases h2
  | some p => rw [e] at h2; cases h2; exact ⟨x, p.1, h1, e, rfl⟩

theorem mem_lamTabs {K : PySem.W.Frag} {x : Str} {c P : Addr} (h : x ∈ lamDefs) (e : PySem.W.tabIn K x = some (c, P)) : (P, x ++ ".<locals>." ++ "<lambda>") ∈ lamTabs K :=
  List.mem_filterMap.mpr ⟨x, h, by rw [e]; rfl⟩

theorem tabsAt_of {K : PySem.W.Frag} {h : Heap} {p : Program} {loose : List Str} {mean : PySem.ExcName → Option Value} {mg mb : Str → Option Value} (T : PyProof.Rows.Top p loose mean mg mb h) (X : K.In h)
    (hb : tabsB K = true) (hr : (lamDefs.all fun x => (PySem.W.tabIn K x).isNone || ((PyProof.Rows.recsOf p).find? fun e => e.name == x).isSome) = true) : TabsAt K h := by
  unfold tabsB at hb
  obtain ⟨hb1, hb2⟩ := Bool.and_eq_true_iff.mp hb
  refine ⟨fun x c P hx ht => ?_, fun P q h => ?_, fun P q q' h1 h2 => nodupB_ok hb2 P q q' h1 h2⟩
  · have z := List.all_eq_true.mp hr x hx
    rw [ht] at z
    obtain ⟨d, hd⟩ := Option.isSome_iff_exists.mp (show ((PyProof.Rows.recsOf p).find? fun e => e.name == x).isSome = true by simpa using z)
    exact PySem.W.tab_of T X hd ht
  · obtain ⟨x, c, hx, ht, _⟩ := lamTabs_mem h
    have z := List.all_eq_true.mp hb1 x hx
    rw [ht] at z
    simpa using z

open PyProof.Rows in
theorem law_g {P : Program} {w : World} {K : PySem.W.Frag} {mg mb : Str → Option Value} {k : Nat} {fa a : Addr} {fd : FuncData} {x : Str} {wf : WF} {t0 : Shared} {vs : List Value} {ns : List Int}
    (KX : K.In t0.heap) (hns : t0.heap.Ns mainGlobals mg) (hb : t0.heap.Ns builtinsNs mb) (hbb : ∀ x : Str, x ≠ "__name__" → mb x = bootBuiltins x) (hlim : t0.heap.NoLimit) (hg : t0.gens = #[]) (TA : TabsAt K t0.heap)
    (hbm : ∃ (bm : Addr) (ob : Obj), mg "__builtins__" = some (.ref bm) ∧ bm ≠ builtinsNs ∧ t0.heap.get? bm = some ob ∧ ob.cls = .type "module" ∧ ob.dict = some builtinsNs ∧ ob.data = .plain)
    (ha : t0.heap.get? a = some { cls := .type "list", data := .seq vs.toArray }) (hi : IntsAre vs ns) (hl : ns.length ≤ sizeLine) (hr : Room k callerA)
    (F : ∀ base : Heap, K.In base → base.Ns mainGlobals mg → TabsB K mg base → FnG P w K mg base k fa fd [x] wf) (hbind : ∀ (s : Shared) (u : Value), BindsTo s fd ⟨[u], []⟩ [(x, u)])
    (hwf : wf (fun _ _ => False) [.rls (ns.map .int)] [] fun s _ => s = .d (.bl true)) :
    codeAny (model P w) callerA (.call (.ref fa) ⟨[.ref a], []⟩) (fun r s' => r = .ok (.ret (.bool true)) ∧ OldK t0.heap s'.heap ∧ s'.os = t0.os ∧ AllBare s'.gens) t0 := by
  have rv := vals_ints hi
  have lenV := hi.length
  have isT : ∀ b q, (b, q) ∈ lamTabs K → (∃ c, PySem.W.CodeHd t0.heap c b) ∧ t0.heap.get? b = some { cls := .none, data := .fields #[] } := fun b q hb => by
    obtain ⟨y, c, h1, h2, _⟩ := lamTabs_mem hb
    exact ⟨⟨c, (TA.at_ y c b h1 h2).1⟩, (TA.at_ y c b h1 h2).2⟩
  have aT : ∀ q, (a, q) ∉ lamTabs K := fun q z => by
    have q := (isT a q z).2
    rw [ha] at q
    have z' : Data.seq vs.toArray _ = Data.fields #[] := congrArg Obj.data (Option.some.inj q)
    cases z'
  -- the heap in which the script and the tables alone may be told
  have main : ∀ (H : Hp) (W : Wd), (∀ b q, (b, q) ∈ lamTabs K → H b = some (.tbl #[])) → (∀ b, H b = none ∨ (∃ q, (b, q) ∈ lamTabs K) ∨ ∃ o xs, H b = some (.frz o (.lst xs))) → W.C = [] → W.g = mg → W.T = (fun b q => (b, q) ∈ lamTabs K) → Al W H → SeqL K W H a (ns.map V.int) → HOk P w H t0.heap → (∀ b, H b ≠ none → b = a ∨ ∃ q, (b, q) ∈ lamTabs K) → (H a ≠ none → K.lookup a = none) →
      codeAny (model P w) callerA (.call (.ref fa) ⟨[.ref a], []⟩) (fun r s' => r = .ok (.ret (.bool true)) ∧ OldK t0.heap s'.heap ∧ s'.os = t0.os ∧ AllBare s'.gens) t0 := by
    intro H W hT only eC eg eT al sq hok isA noK
    have base_of : ∀ {b : Addr} {o : Obj}, t0.heap.get? b = some o → H b = none → (hidT t0.heap H).get? b = some o := fun e n => hidT_get e n
    have noD : ∀ {b : Addr} {o : Obj}, t0.heap.get? b = some o → (∀ vs n, o.data ≠ .seq vs n) → o.data ≠ .fields #[] → H b = none := fun {b o} e h1 h2 => by
      cases q : H b with
      | none => rfl
      | some u =>
        rcases isA b (by rw [q]; simp) with e' | ⟨q', e'⟩
        · rw [e', ha] at e
          cases e
          exact (h1 _ _ rfl).elim
        · rw [(isT b q' e').2] at e
          cases e
          exact (h2 rfl).elim
    have noA : ∀ {b : Addr} {o : Obj} {es : Array DictEntry} {ep : Nat}, t0.heap.get? b = some o → o.data = .dict es ep → H b = none := fun {b o es ep} e d => by
      refine noD e (fun vs n z => ?_) fun z => ?_
      · rw [d] at z
        cases z
      · rw [d] at z
        cases z
    have nsK : ∀ {b : Addr} {m : Str → Option Value}, t0.heap.Ns b m → (hidT t0.heap H).Ns b m := fun {b m} ⟨o, es, ep, e, d, rr⟩ => ⟨o, es, ep, base_of e (noA e d), d, rr⟩
    have kin : K.In (hidT t0.heap H) := fun b o e => base_of (KX b o e) (by
      cases q : H b with
      | none => rfl
      | some u =>
        rcases isA b (by rw [q]; simp) with e' | ⟨q', e'⟩
        · rw [e'] at e q
          rw [noK (by rw [q]; simp)] at e
          cases e
        · rw [TA.no b q' e'] at e
          cases e)
    have M : Mod K mg (hidT t0.heap H) := ⟨kin, nsK hns, ⟨mb, nsK hb, hbb⟩, let ⟨mc, h1, h2⟩ := hlim; ⟨mc, nsK h1, h2⟩⟩
    have TB : TabsB K mg (hidT t0.heap H) := fun y c p hy ht => by
      obtain ⟨hC, hTp⟩ := TA.at_ y c p hy ht
      refine ⟨?_, ?_, fun z => ?_⟩
      · obtain ⟨o, us, file, tf, flags, tg, inF, text, tt, e1, r1, r2, r3, r4, r5, r6, r7, r8, hne⟩ := hC
        refine ⟨o, us, file, tf, flags, tg, inF, text, tt, base_of e1 (noD e1 (fun vs n z => ?_) fun z => ?_), r1, r2, r3, r4, r5, r6, r7, r8, hne⟩
        · rw [r2] at z
          cases z
        · rw [r2] at z
          cases z
          simp at r3
      · obtain ⟨bm, ob, b1, b2, b3, b4, b5, b6⟩ := hbm
        have nG : bm ≠ mainGlobals := fun q => by
          obtain ⟨o, es, ep, e, hd, _⟩ := hns
          rw [q, e] at b3
          cases b3
          rw [hd] at b6
          cases b6
        have nP : bm ≠ p := fun q => by
          rw [q, hTp] at b3
          cases b3
          cases b6
        refine ⟨bm, ob, b1, b2, nG, nP, base_of b3 (noD b3 (fun vs n z => ?_) fun z => ?_), b4, b5, b6⟩
        · rw [b6] at z
          cases z
        · rw [b6] at z
          cases z
      · obtain ⟨o, es, ep, e, hd, _⟩ := hns
        rw [z, hTp] at e
        cases e
        cases hd
    have env : Env0 P w K mg (hidT t0.heap H) callerA [] t0 H := ⟨rfl, M, fun b o e => of_hidT e, Nat.le_of_eq (hidT_size _ _), trivial, fun b hb => absurd (show b ∈ ([] : List Addr) from hb) (by simp), hok, .of_eq hg⟩
    refine codeAny_mono (F _ kin (nsK hns) TB callerA [] t0 H ⟨[.ref a], []⟩ [.ref a] [.ref a] [.rls (ns.map .int)] W [] _ _ (fun v _ => v = .bl true) (fun _ _ _ => False) rfl hr env (hbind t0 (.ref a)) (.cons rfl .nil) rfl al
      ⟨by rw [eC]; rfl, fun P q h => by rw [eT]; exact ⟨h, fun q' h' => TA.nd P q q' h h'⟩, fun i c b e => by simp at e⟩ eg (.cons (.rls sq (.of_int ns)) .nil) hwf (fun d _ W' y H' e rt => ?_) fun _ _ _ _ _ _ q => q.elim) fun r s' h => ?_
    · subst e
      have q : Dn K W' H' (.bl true) y := rt.res.rs
      cases q
      rfl
    · match r, h with
      | .error e, h => obtain ⟨_, _, _, _, _, _, _, _, _, _, _, _, z⟩ := h; exact z.elim
      | .ok (.ret u), ⟨v, H', os, bare, un, hok', rr, q⟩ =>
        subst q
        obtain rfl : u = Value.bool true := rr
        have key : ∀ b o, (∀ q, (b, q) ∉ lamTabs K) → t0.heap.get? b = some o → s'.heap.get? b = some o := fun b o nb e => by
          cases q : H b with
          | none => exact un.keep b o e q (by intro z; exact absurd (show b ∈ ([] : List Addr) from z) (by simp)) (by simp)
          | some u =>
            rcases only b with z | ⟨q', z⟩ | ⟨ob, xs, z⟩
            · rw [q] at z; cases z
            · exact absurd z (nb q')
            · obtain ⟨e1, _⟩ := hok b _ z
              obtain ⟨e2, _⟩ := hok' b _ (un.frzs b ob _ z)
              rw [e] at e1; cases e1
              exact e2
        have grown : ∀ b q, (b, q) ∈ lamTabs K → ∃ more : Array Value, s'.heap.get? b = some { cls := .none, data := .fields more } := fun b q hb => by
          obtain ⟨more, z⟩ := un.tbls b #[] (hT b q hb)
          exact ⟨_, hok' b _ z⟩
        refine ⟨rfl, ⟨fun b o e => ?_, fun b o e => ?_⟩, os, bare⟩
        · by_cases hb : ∃ q, (b, q) ∈ lamTabs K
          · obtain ⟨q, hb⟩ := hb
            obtain ⟨more, hm⟩ := grown b q hb
            obtain ⟨⟨c, hC⟩, hTb⟩ := isT b q hb
            rw [hTb] at e
            cases e
            exact .inr (.inl ⟨(hC.tab hTb).isCodeTable, rfl, #[], more, rfl, by rw [Array.empty_append]; exact hm⟩)
          · exact .inl (key b o (fun q z => hb ⟨q, z⟩) e)
        · by_cases hb : ∃ q, (b, q) ∈ lamTabs K
          · obtain ⟨q, hb⟩ := hb
            obtain ⟨more, hm⟩ := grown b q hb
            exact ⟨_, hm⟩
          · exact ⟨o, key b o (fun q z => hb ⟨q, z⟩) e⟩
  have jt : ∀ (W : Wd) (H : Hp), W.T = (fun b q => (b, q) ∈ lamTabs K) → (∀ b q, (b, q) ∈ lamTabs K → H b = some (.tbl #[])) → ∀ b, (∃ q, (b, q) ∈ lamTabs K) → JarAt W H b := fun W H eT hT b ⟨q, hb⟩ =>
    .inl ⟨⟨q, by rw [eT]; exact hb⟩, fun q' hq' => ⟨#[], hT b q hb, True.intro, fun pos cv hc => by
      have z : codeAmong pos [] = some cv := hc
      simp [codeAmong] at z⟩⟩
  classical
  cases hk : K.lookup a with
  | some o =>
    have e := KX a o hk
    rw [ha] at e
    cases e
    have hT : ∀ b q, (b, q) ∈ lamTabs K → (fun b => if ∃ q, (b, q) ∈ lamTabs K then some (HO.tbl #[]) else none : Hp) b = some (.tbl #[]) := fun b q h => if_pos ⟨q, h⟩
    refine main (fun b => if ∃ q, (b, q) ∈ lamTabs K then some (.tbl #[]) else none) ⟨fun _ => False, fun b => ∃ q, (b, q) ∈ lamTabs K, [], mg, fun b q => (b, q) ∈ lamTabs K⟩ hT (fun b => ?_) rfl rfl rfl
      ⟨fun _ q => q.elim, jt _ _ rfl hT, fun _ _ q => q.elim, fun _ q => absurd q (by simp), by simp, fun P q h => ⟨q, h⟩⟩ (.inr ⟨_, vs.toArray, _, hk, rfl, rfl, rfl, by rw [List.size_toArray, lenV]; exact hl, by simpa using rv⟩) (fun b u z => ?_) (fun b z => ?_) fun z => absurd (if_neg fun ⟨q, h⟩ => aT q h) z
    · by_cases hb : ∃ q, (b, q) ∈ lamTabs K
      · exact .inr (.inl hb)
      · exact .inl (if_neg hb)
    · by_cases hb : ∃ q, (b, q) ∈ lamTabs K
      · cases (if_pos hb).symm.trans z
        obtain ⟨q, hb⟩ := hb
        exact (isT b q hb).2
      · cases (if_neg hb).symm.trans z
    · by_cases hb : ∃ q, (b, q) ∈ lamTabs K
      · exact .inr hb
      · exact absurd (if_neg hb) z
  | none =>
    have hT : ∀ b q, (b, q) ∈ lamTabs K → (fun b => if b = a then some (.frz { cls := .type "list", data := .seq vs.toArray } (.lst (ns.map V.int))) else if ∃ q, (b, q) ∈ lamTabs K then some (HO.tbl #[]) else none : Hp) b = some (.tbl #[]) := fun b q h =>
      (if_neg (show ¬ b = a from fun z => aT q (by rw [← z]; exact h))).trans (if_pos ⟨q, h⟩)
    refine main (fun b => if b = a then some (.frz { cls := .type "list", data := .seq vs.toArray } (.lst (ns.map V.int))) else if ∃ q, (b, q) ∈ lamTabs K then some (.tbl #[]) else none) ⟨fun b => b = a, fun b => ∃ q, (b, q) ∈ lamTabs K, [], mg, fun b q => (b, q) ∈ lamTabs K⟩ hT (fun b => ?_) rfl rfl rfl
      ⟨fun b q => ⟨_, if_pos q⟩, jt _ _ rfl hT, fun b ⟨q, h⟩ z => aT q (by rw [← (show b = a from z)]; exact h), fun _ q => absurd q (by simp), by simp, fun P q h => ⟨q, h⟩⟩ (.inl ⟨rfl, .inr ⟨{ cls := .type "list", data := .seq vs.toArray }, if_pos rfl⟩⟩) (fun b u z => ?_) (fun b z => ?_) fun _ => hk
    · by_cases q : b = a
      · exact .inr (.inr ⟨_, _, if_pos q⟩)
      · by_cases hb : ∃ q, (b, q) ∈ lamTabs K
        · exact .inr (.inl hb)
        · exact .inl ((if_neg q).trans (if_neg hb))
    · by_cases q : b = a
      · cases (if_pos q).symm.trans z
        subst q
        exact ⟨ha, by rw [List.length_map]; exact hl, vs, _, rv, ha⟩
      · have z1 := (if_neg q).symm.trans z
        by_cases hb : ∃ q, (b, q) ∈ lamTabs K
        · cases (if_pos hb).symm.trans z1
          obtain ⟨q, hb⟩ := hb
          exact (isT b q hb).2
        · cases (if_neg hb).symm.trans z1
    · by_cases q : b = a
      · exact .inl q
      · have z1 : ¬ (if ∃ q, (b, q) ∈ lamTabs K then some (HO.tbl #[]) else none) = none := fun z2 => z ((if_neg q).trans z2)
        by_cases hb : ∃ q, (b, q) ∈ lamTabs K
        · exact .inr hb
        · exact absurd (if_neg hb) z1

open PyProof.Rows in
/-- the goal that k_head leaves -/
theorem walk_g {l : PySem.W.OpenLaw} {n k : Nat} {q : Program} {loose : List Str} {XP : (Str → Option Value) → Heap → Prop} {YP : World → Heap → Prop} {d : DefRec} {K : Params → PySem.W.Frag} {wf : WF} {x : Str}
    (hn : l.most = some n) (hn2 : n ≤ sizeLine) (hdf : d.params.defaults = []) (hr : Room k callerA) (hY : ∀ (w : World) (h : Heap), YP w h → (K w.params).In h)
    (hT : ∀ w : World, tabsB (K w.params) = true ∧ (lamDefs.all fun x => (PySem.W.tabIn (K w.params) x).isNone || ((PyProof.Rows.recsOf q).find? fun e => e.name == x).isSome) = true)
    (F : ∀ (w : World) (mg : Str → Option Value) (fa : Addr) (h : Heap), (K w.params).In h → h.Ns mainGlobals mg → mg d.name = some (.ref fa) →
      ∃ fd : FuncData, (∀ (s : Shared) (u : Value), BindsTo s fd ⟨[u], []⟩ [(x, u)]) ∧ ∀ base : Heap, (K w.params).In base → base.Ns mainGlobals mg → TabsB (K w.params) mg base → FnG l.prog w (K w.params) mg base k fa fd [x] wf)
    (hwf : ∀ ns : List Int, ns.length ≤ n → wf (fun _ _ => False) [.rls (ns.map .int)] [] fun s _ => s = .d (.bl true)) : PySem.W.WalkO q loose XP YP l.row.toRowW d [] (fun f vs => PySem.call f vs) := by
  refine Att.attach_call hn hdf fun w s₀ t0 mg mb fa o pm cd doc a vs ns Gr Y ho hd hcd hmg hobj hints hlen hg => ?_
  obtain ⟨fd, hb, hF⟩ := F w mg fa _ (hY w _ Y) Gr.T.g hmg
  exact law_g (hY w _ Y) Gr.T.g Gr.T.b Gr.T.builtins Gr.T.nolimit hg (tabsAt_of Gr.T (hY w _ Y) (hT w).1 (hT w).2) Gr.T.bmain hobj hints (Nat.le_trans hlen hn2) hr hF hb (hwf ns hlen)

end DL







/-! DL5: own lists, own dicts and jars in slots: read without being frozen, changed. -/

namespace DL

open PySem PySem.Spec L2

section

variable {K : PySem.W.Frag} {G : Gx} {T : WX} {σ : L2.St} {ρ ρ1 : Rho} {W W1 : Wd} {H H1 : Hp}

/-- what slot i denotes now -/
theorem Ok.look (ok : Ok K G W ρ σ H) {i : Nat} {s : S} (h : ρ.sl[i]? = some (some s)) : ∃ x W', σ[i]? = some (some x) ∧ Dn K W' H s.frz x ∧ Rs K W H s x := by
  obtain ⟨x, W2, e, g, d⟩ := ok.freezeSlot h
  obtain ⟨y, e2, r⟩ := ok.val i s h
  rw [e] at e2; cases e2
  exact ⟨x, W2, e, d, r⟩

/-- the items of a slot's list or tuple, told in the world as it is -/
theorem Rs.seq {s : S} {x : V} {ds : List D} (h : Rs K W H s x) (e : s.frz.items = some ds) : ∃ p vs, x = .ref p ∧ (SqL K H p vs ∨ SqT K H p vs) ∧ DnA K W H ds vs := by
  cases s with
  | d d => exact Dn.seq (K := K) h e
  | own es => cases e; obtain ⟨p, vs, a, b, c⟩ := h; exact ⟨p, vs, a, .inl (SqL.of b), c⟩
  | odic es => cases e
  | ldic es => cases e
  | oins _ C es => cases e

/-- an own object is written in its slot -/
theorem Ok.wslot (ok : Ok K G W ρ σ H) {i : Nat} {s s' : S} {p : Addr} {o : HO} (h : ρ.sl[i]? = some (some s)) (e : σ[i]? = some (some (.ref p))) (hs : s.isOwn = true) (hs' : s'.isOwn = true) (hr : Rs K W (upd H p o) s' (.ref p)) :
    Go K G σ ρ W H (ρ.set i (some s')) W (upd H p o) := by
  have hO : Ow ρ σ p := ⟨i, s, h, hs, e⟩
  obtain ⟨nf, nj, nc, h0⟩ := ok.frs p hO
  obtain ⟨u, hu⟩ := ok.here hO
  have l : Le W H W (upd H p o) := .same fun a q => upd_ne fun z => nf (by rw [← z]; exact q)
  have kc : ∀ a ∈ W.C, upd H p o a = H a := fun a q => upd_ne fun z => nc (by rw [← z]; exact q)
  have hi : i < ρ.sl.length := (List.getElem?_eq_some_iff.mp h).1
  have sub : ∀ a, Ow (ρ.set i (some s')) σ a → Ow ρ σ a := fun a ⟨j, d, d1, d2, d3⟩ => by
    rcases set_get d1 with ⟨z1, z2⟩ | ⟨z1, z2⟩
    · subst z1; rw [e] at d3; cases d3; exact hO
    · exact ⟨j, d, z2, d2, d3⟩
  have al : Al W (upd H p o) := ⟨fun a q => by rw [l.k a q]; exact ok.al.f a q, fun a q => (ok.al.j a q).le l (upd_ne fun z => nj (by rw [← z]; exact q)), ok.al.d, fun a q => ⟨(ok.al.c a q).1, (ok.al.c a q).2.1, by rw [kc a q]; exact (ok.al.c a q).2.2⟩, ok.al.nd, ok.al.t⟩
  have up : ∀ a, upd H p o a = none → H a = none := fun a q => by
    by_cases z : a = p
    · subst z; rw [upd_same] at q; cases q
    · rwa [upd_ne z] at q
  refine ⟨⟨ok.len.trans List.length_set.symm, fun j d hj => ?_, fun a q => ok.frs a (sub a q), fun j m d d' a h1 h2 o1 o2 s1 s2 => ?_, al, ⟨ok.en.le.trans l, ok.en.nF, ok.en.nJ, ok.en.nC, fun a v hv nj' nc' no => ?_, fun a q => ok.en.up a (up a q)⟩, ok.mm.keep l rfl kc⟩, ⟨l, fun _ q => .inl q, fun _ q => .inl q, fun _ q => .inl q, fun a v hv nj' nc' no => ?_, up⟩, sub⟩
  · rcases set_get hj with ⟨z1, z2⟩ | ⟨z1, z2⟩
    · cases z2; subst z1; exact ⟨_, e, hr⟩
    · obtain ⟨y, e1, e2⟩ := ok.val j d z2
      refine ⟨y, e1, e2.le l fun od q eq => upd_ne fun z => z1 ?_⟩
      subst eq z
      exact ok.inj i j s d q h z2 hs od e e1
  · rcases set_get h1 with ⟨z1, z2⟩ | ⟨z1, z2⟩
    · subst z1; cases z2; rw [e] at s1; cases s1
      rcases set_get h2 with ⟨y1, y2⟩ | ⟨y1, y2⟩
      · exact y1
      · exact ok.inj i m s d' p h y2 hs o2 e s2
    · rcases set_get h2 with ⟨y1, y2⟩ | ⟨y1, y2⟩
      · subst y1; cases y2; rw [e] at s2; cases s2
        exact ok.inj j i d s p z2 h o1 hs s1 e
      · exact ok.inj j m d d' a z2 y2 o1 o2 s1 s2
  · rw [upd_ne (ne_of_none hv h0)]; exact ok.en.st a v hv nj' nc' no
  · rw [upd_ne fun z => no (by rw [z]; exact hO)]; exact hv

/-- a jar is written -/
theorem Ok.wjar (ok : Ok K G W ρ σ H) {p : Addr} {x y z : Int} (h : W.J p) (nt : ∀ q, ¬ W.T p q) (b : -(2 ^ 40) < y ∧ y < 2 ^ 40) : Go K G σ ρ W H ρ W (upd H p (.lst [.int x, .int y, .int z])) := by
  obtain ⟨x0, y0, z0, e0, _⟩ := (ok.al.j p h).jar nt
  have l : Le W H W (upd H p (.lst [.int x, .int y, .int z])) := .same fun a q => upd_ne fun z => ok.al.d p h (by rw [← z]; exact q)
  have kc : ∀ a ∈ W.C, upd H p (.lst [.int x, .int y, .int z]) a = H a := fun a q => upd_ne fun z => (ok.al.c a q).2.1 (by rw [z]; exact h)
  refine ok.grow0 ⟨.same fun a q => upd_ne fun z => ok.al.d p h (by rw [← z]; exact q), fun _ q => .inl q, fun _ q => .inl q, fun _ q => .inl q, fun a v hv nj _ _ => by rw [upd_ne (fun z => nj (by rw [z]; exact h))]; exact hv, fun a q => ?_⟩ ⟨fun a q => ?_, fun a q => ?_, ok.al.d, fun a q => ⟨(ok.al.c a q).1, (ok.al.c a q).2.1, by rw [kc a q]; exact (ok.al.c a q).2.2⟩, ok.al.nd, ok.al.t⟩ rfl kc
  · by_cases z : a = p
    · subst z; rw [upd_same] at q; cases q
    · rwa [upd_ne z] at q
  · rw [upd_ne fun z => ok.al.d p h (by rw [← z]; exact q)]; exact ok.al.f a q
  · by_cases w : a = p
    · subst w; exact .inr ⟨nt, x, y, z, upd_same, b⟩
    · exact (ok.al.j a q).le l (upd_ne w)

end

section

variable {X : Cx} {G : Gx} {T : WX} {a b c e : Expr} {w wa wb : WE} {pos p apos cpos : Pos} {i : Nat}

/-! ### x[k], x a slot -/

def wIxV (i : Nat) (wk : WE) : WE := fun Z ρ R => (∃ s0, ρ.sl[i]? = some (some s0)) ∧ wk Z ρ fun k ρ1 => match ρ1.sl[i]? with
  | some (some s) => fIx s.frz k.frz fun z => R z ρ1
  | _ => False

theorem de_ixV (i : Nat) {x : Str} (hb : DE X G T b wb) (hN : X.N[i]? = some x := by rfl) (hv : Vis X.env.scope x := by first | exact Or.inl rfl | exact Or.inr (Or.inl rfl) | exact Or.inr (Or.inr rfl)) (hd : (x == ("__debug__" : Str)) = false := by decide)
    (hcd : (x == ("__classdict__" : Str)) = false := by decide) (hs : PlainIx b := by intro _ _; rfl) : DE X G T (.Subscript (.Name x p) b pos) (wIxV i wb) :=
  pe_weak (pe_ix ix_seq (pv i hN hv hd hcd) hb hs) fun σ H Q ⟨W, ρ, R, Z, ok, ⟨⟨s0, e0⟩, h⟩, hR, hZ⟩ => by
    obtain ⟨x, _, ex, _⟩ := ok.look e0
    refine ⟨x, ex, ?_⟩
    refine lE_then (R := fun k ρ1 => match ρ1.sl[i]? with | some (some s) => fIx s.frz k fun z => R z ρ1 | _ => False) ok h hZ fun k ρ1 W1 y H1 h1 g1 d1 => ?_
    split at h1
    · rename_i s e1
      obtain ⟨x', e2, r⟩ := g1.ok.val i s e1
      rw [ex] at e2; cases e2
      cases s with
      | d d => exact od_ix G W1 ρ1 σ H1 d k x y _ Q g1.ok r d1 h1 fun z W' v H' hz g2 r2 => hR z ρ1 W' v H' hz (g1.trans g2) (r2.up g1.stp.up)
      | own es =>
        obtain ⟨q, vs, rfl, hq, da⟩ := r
        cases d1 <;> first | exact h1.elim | skip
        rename_i j
        obtain ⟨es', z, f1, f2, f3⟩ := h1
        cases f1
        obtain ⟨v, e3, e4⟩ := da.atI f2
        exact .inl ⟨q, vs, j, v, rfl, rfl, SqL.of hq, e3, hR _ ρ1 W1 v H1 f3 g1 (.of e4)⟩
      | odic es => cases d1 <;> first | exact h1.elim | (obtain ⟨_, _, f1, _⟩ := h1; cases f1)
      | ldic es => cases d1 <;> first | exact h1.elim | (obtain ⟨_, _, f1, _⟩ := h1; cases f1)
      | oins _ C es => cases d1 <;> first | exact h1.elim | (obtain ⟨_, _, f1, _⟩ := h1; cases f1)
    · exact h1.elim

/-! ### len(x), x a slot -/

def wLenV (i : Nat) : WE := fun _ ρ R => match ρ.sl[i]? with
  | some (some s) => fLen [s.frz] fun z => R z ρ
  | _ => False

/-! ### pure tests with a slot on the left (right) -/

def wOpV (i : Nat) (f : D → D → (S → Prop) → Prop) (wb : WE) : WE := fun Z ρ R => (∃ s0, ρ.sl[i]? = some (some s0)) ∧ wb Z ρ fun y ρ1 => match ρ1.sl[i]? with
  | some (some s) => f s.frz y.frz fun z => R z ρ1
  | _ => False

def wOpW (wa : WE) (i : Nat) (f : D → D → (S → Prop) → Prop) : WE := fun Z ρ R => wa Z ρ fun x ρ1 => match ρ1.sl[i]? with
  | some (some s) => f x.frz s.frz fun z => R z ρ1
  | _ => False

/-! ### x.append(e) -/

def wApp (i : Nat) (w : WE) : WS := fun E ρ => (∃ d0, ρ.sl[i]? = some (some (.own d0))) ∧ w E.ex ρ fun d ρ1 => match ρ1.sl[i]? with
  | some (some (.own ds)) => ds.length < sizeLine ∧ E.nx (ρ1.set i (some (.own (ds ++ [d.frz]))))
  | _ => False

section

variable {x : Str} (hN : X.N[i]? = some x := by rfl) (hv : Vis X.env.scope x := by first | exact Or.inl rfl | exact Or.inr (Or.inl rfl) | exact Or.inr (Or.inr rfl)) (hd : (x == ("__debug__" : Str)) = false := by decide) (hcd : (x == ("__classdict__" : Str)) = false := by decide)

theorem ds_app (i : Nat) (he : DE X G T e w) (hN : X.N[i]? = some x := by rfl) (hv : Vis X.env.scope x := by first | exact Or.inl rfl | exact Or.inr (Or.inl rfl) | exact Or.inr (Or.inr rfl)) (hd : (x == ("__debug__" : Str)) = false := by decide) (hcd : (x == ("__classdict__" : Str)) = false := by decide)
    (hst : starEach [e] X.env = (false, eval e X.env) :: starEach [] X.env := by rfl)
    (hbase : attributeBase (.Name x p) "append" X.env (eval (.Name x p) X.env) = eval (.Name x p) X.env := by rfl)
    (hfew : ((backTo cpos (starEach (e :: []) X.env)).all (fun x => !x.1) && (backToKw cpos (keywordEach [] X.env)).all (fun x => x.1.isSome) && decide ((e :: []).length + ([] : List Keyword).length + (if ([] : List Keyword).isEmpty then 0 else 1) < 30)) = true := by rfl)
    (hline : (apos.endLine == cpos.line) = true := by rfl) (hs : swapsWith (.Call (.Attribute (.Name x p) "append" apos) [e] [] cpos) none pos.line X.env = pure false := by rfl) :
    DS X G T (.Expr (.Call (.Attribute (.Name x p) "append" apos) [e] [] cpos) pos) (wApp i w) :=
  ps_weak (ps_expr (pe_bm PySem.F.plainAttrs_list PySem.F.slot_list_append PySem.F.type_list_append mt_append (pv i hN hv hd hcd) (pa_cons he pa_nil hst) hbase hfew hline hst rfl) hs) fun D σ H ⟨W, ρ, E, ok, ⟨⟨d0, e0⟩, h⟩, hn, hr, hb, hc, hx⟩ => by
    obtain ⟨y, ey, ⟨q, vs0, rfl, hq, _⟩⟩ := ok.val i _ e0
    refine ⟨_, ey, .inl ⟨rfl, vs0, SqL.of hq⟩, ?_⟩
    refine lE_then (R := fun d ρ1 => match ρ1.sl[i]? with | some (some (.own ds)) => ds.length < sizeLine ∧ E.nx (ρ1.set i (some (.own (ds ++ [d])))) | _ => False) ok h (hx.z σ ρ) fun d ρ1 W1 x1 H1 h1 g1 d1 => ?_
    split at h1
    · rename_i ds e1
      obtain ⟨y1, ey1, ⟨q1, vs, rfl, hq1, da⟩⟩ := g1.ok.val i _ e1
      rw [ey] at ey1; cases ey1
      have nf := (g1.ok.frs q ⟨i, _, e1, rfl, ey⟩).1
      have l : Le W1 H1 W1 (upd H1 q (.lst (vs ++ [x1]))) := .same fun a z => upd_ne fun z2 => nf (by rw [← z2]; exact z)
      have g2 := g1.ok.wslot (s' := .own (ds ++ [d])) (o := .lst (vs ++ [x1])) e1 ey rfl rfl ⟨q, _, rfl, upd_same, (da.append (.cons d1 .nil)).le l⟩
      exact ⟨q, vs, x1, rfl, rfl, hq1, by rw [← da.length]; exact h1.1, hn _ W1 σ _ h1.2 g2.ok (g1.stp.le.trans g2.stp.le)⟩
    · exact h1.elim

end

/-! ### x[k] = e, x a slot: an own list, a jar -/

def sIx (s : S) (k d : D) (N : S → Prop) : Prop := match s, k with
  | .own ds, .int j => ∃ n, ixN ds.length j = some n ∧ N (.own (ds.set n d))
  | .d .jar, .int j => (j = 0 ∨ j = 1 ∨ j = 2) ∧ (∃ n : Int, d = .int n ∧ (j = 1 → -(2 ^ 40) < n ∧ n < 2 ^ 40)) ∧ N (.d .jar)
  | _, _ => False

def wSetIx (i : Nat) (wk w : WE) : WS := fun E ρ => w E.ex ρ fun d ρ1 => (∃ s0, ρ1.sl[i]? = some (some s0)) ∧ wk E.ex ρ1 fun k ρ2 => match ρ2.sl[i]? with
  | some (some s) => sIx s k.frz d.frz fun s' => E.nx (if s.isOwn = true then ρ2.set i (some s') else ρ2)
  | _ => False

theorem ds_setIx (i : Nat) {x : Str} {idx : Expr} {wk : WE} {tpos : Pos} (he : DE X G T e w) (hk : DE X G T idx wk) (hN : X.N[i]? = some x := by rfl) (hv : Vis X.env.scope x := by first | exact Or.inl rfl | exact Or.inr (Or.inl rfl) | exact Or.inr (Or.inr rfl)) (hd : (x == ("__debug__" : Str)) = false := by decide) (hcd : (x == ("__classdict__" : Str)) = false := by decide)
    (ha : ∀ v, assign (.Subscript (.Name x p) idx tpos) X.env v = (do
      let ov ← holding [v] (eval (.Name x p) X.env)
      let iv ← holding [v, ov] (eval idx X.env)
      standAt tpos
      holding [v, ov, iv] (setItem ov iv v)
      release [v, ov, iv] []) := by intro _; rfl)
    (hs : swapsWithSole [.Subscript (.Name x p) idx tpos] e pos.line X.env = pure false := by rfl) (hw : swappedStores [.Subscript (.Name x p) idx tpos] e X.env = pure none := by rfl)
    (h1 : (assignEach [.Subscript (.Name x p) idx tpos] X.env).map (·.2) = [assign (.Subscript (.Name x p) idx tpos) X.env] := by rfl) :
    DS X G T (.Assign [.Subscript (.Name x p) idx tpos] e pos) (wSetIx i wk w) :=
  ps_weak (ps_asg he (pg_sub (pv i hN hv hd hcd) hk set_list ha) hs hw h1) fun D σ H ⟨W, ρ, E, ok, h, hn, hr, hb, hc, hx⟩ => by
    refine lE_then (R := fun d ρ1 => (∃ s0, ρ1.sl[i]? = some (some s0)) ∧ wk E.ex ρ1 fun k ρ2 => match ρ2.sl[i]? with
      | some (some s) => sIx s k.frz d fun s' => E.nx (if s.isOwn = true then ρ2.set i (some s') else ρ2)
      | _ => False) ok h (hx.z σ ρ) fun d ρ1 W1 x1 H1 ⟨⟨s0, e0⟩, h1⟩ g1 d1 => ?_
    obtain ⟨y, _, ey, _⟩ := g1.ok.look e0
    refine ⟨y, ey, ?_⟩
    refine lE_then (R := fun k ρ2 => match ρ2.sl[i]? with
      | some (some s) => sIx s k d fun s' => E.nx (if s.isOwn = true then ρ2.set i (some s') else ρ2)
      | _ => False) g1.ok h1 ((hx.z σ ρ).go g1) fun k ρ2 W2 x2 H2 h2 g2 d2 => ?_
    have g12 := g1.trans g2
    split at h2
    · rename_i s e2
      obtain ⟨y1, ey1, r⟩ := g2.ok.val i _ e2
      rw [ey] at ey1; cases ey1
      have d1' := d1.le g2.stp.le
      cases s with
      | own ds =>
        obtain ⟨q, vs, rfl, hq, da⟩ := r
        cases d2 <;> first | exact h2.elim | skip
        rename_i j
        obtain ⟨n, hn1, hN'⟩ := h2
        simp only [S.isOwn, if_true] at hN'
        have nf := (g2.ok.frs q ⟨i, _, e2, rfl, ey⟩).1
        have l : Le W2 H2 W2 (upd H2 q (.lst (vs.set n x1))) := .same fun a z => upd_ne fun z2 => nf (by rw [← z2]; exact z)
        have g3 := g2.ok.wslot (s' := .own (ds.set n d)) (o := .lst (vs.set n x1)) e2 ey rfl rfl ⟨q, _, rfl, upd_same, (DnA.set d1' n da).le l⟩
        exact ⟨q, vs, j, n, rfl, rfl, hq, by rw [← da.length]; exact hn1, hn _ W2 σ _ hN' g3.ok (g12.stp.le.trans g3.stp.le)⟩
      | odic es => exact (by cases d2 <;> exact h2.elim)
      | ldic es => exact (by cases d2 <;> exact h2.elim)
      | oins _ C es => exact (by cases d2 <;> exact h2.elim)
      | d z =>
        cases z <;> first | (cases d2 <;> exact False.elim h2) | skip
        cases d2 <;> first | exact False.elim h2 | skip
        rename_i j
        obtain ⟨hj, ⟨n, rfl, hb⟩, hN'⟩ := h2
        simp only [S.isOwn, Bool.false_eq_true, if_false] at hN'
        have r' : Dn X.K W2 H2 .jar y := r
        cases r' with
        | jar ja jn =>
          obtain ⟨x0, y0, z0, e3, b3⟩ := (g2.ok.al.j _ ja).jar jn
          cases d1'
          rcases hj with rfl | rfl | rfl
          · have g3 := g2.ok.wjar (x := n) (y := y0) (z := z0) ja jn b3
            exact ⟨_, _, 0, 0, rfl, rfl, e3, rfl, hn _ W2 σ _ hN' g3.ok (g12.stp.le.trans g3.stp.le)⟩
          · have g3 := g2.ok.wjar (x := x0) (y := n) (z := z0) ja jn (hb rfl)
            exact ⟨_, _, 1, 1, rfl, rfl, e3, rfl, hn _ W2 σ _ hN' g3.ok (g12.stp.le.trans g3.stp.le)⟩
          · have g3 := g2.ok.wjar (x := x0) (y := y0) (z := n) ja jn b3
            exact ⟨_, _, 2, 2, rfl, rfl, e3, rfl, hn _ W2 σ _ hN' g3.ok (g12.stp.le.trans g3.stp.le)⟩
    · exact h2.elim

/-! ### a def's answer, a list of three ints of its own, is a jar from now on -/

theorem FnG.jar {P : Program} {w : World} {K : PySem.W.Frag} {mg : Str → Option Value} {base : Heap} {k : Nat} {f : Addr} {fd : FuncData} {ps : List Str} {wf wf' : WF} (F : FnG P w K mg base k f fd ps wf)
    (h : ∀ Z ds μ R, ds.length = ps.length → wf' Z ds μ R → wf Z ds μ fun s μ => ∃ x y z : Int, s = .own [.int x, .int y, .int z] ∧ (-(2 ^ 40) < y ∧ y < 2 ^ 40) ∧ R (.d .jar) μ) : FnG P w K mg base k f fd ps wf' :=
  fun A outer s H args us vs ds W μ R Z Q E hg hr e0 hbd r hlen al mm hgm da hwf hQ hE => F A outer s H args us vs ds W μ _ Z Q E hg hr e0 hbd r hlen al mm hgm da (h Z ds μ R hlen hwf) (fun d μ' W' x H' ⟨i, j, l, e, b, hR⟩ rt => by
    subst e
    obtain ⟨q, vs', rfl, hq, dd⟩ := rt.res.rs
    obtain ⟨nf, nj, nc, h0⟩ := rt.res.fr rfl q rfl
    have ev : vs' = [.int i, .int j, .int l] := DnA.map_int (ns := [i, j, l]) dd
    subst ev
    have lj : Le W' H' (W'.addJ q) H' := ⟨fun _ z => z, fun _ z => .inl z, fun _ _ => rfl, fun _ _ z => z, rfl, rfl⟩
    refine hQ _ μ' (W'.addJ q) _ H' hR ⟨⟨rt.al.f, fun a z => z.elim (fun z => (rt.al.j a z).le lj rfl) fun e => .inr ⟨fun s z => nj (by rw [← e]; exact rt.al.t a s z), i, j, l, by rw [e]; exact hq, b⟩, fun a z => z.elim (rt.al.d a) fun e => by rw [e]; exact nf, fun a z => ⟨(rt.al.c a z).1, fun y => y.elim (rt.al.c a z).2.1 fun e => nc (by rw [← e]; exact z), (rt.al.c a z).2.2⟩, rt.al.nd, fun P s h => .inl (rt.al.t P s h)⟩, ⟨rt.stp.le.trans lj, rt.stp.nF, fun a z => z.elim (rt.stp.nJ a) fun e => .inr (by rw [e]; exact h0), rt.stp.nC, rt.stp.st, rt.stp.up⟩, .of (.jar (.inr rfl) fun s z => nj (rt.al.t q s z)), rt.mm.keep lj rfl fun _ _ => rfl⟩) hE

end

end DL







/-! DL6: defs by their names. -/

namespace DL

open PySem PySem.Spec L2

/-- the def named x at the module's top does what wf says -/
def Df (P : Program) (w : World) (K : PySem.W.Frag) (mg : Str → Option Value) (base : Heap) (k : Nat) (x : Str) (st : Stmt) (ps : List Str) (wf : WF) : Prop :=
  ∃ f fd, mg x = some (.ref f) ∧ Fun K x x st f fd ∧ Binds K fd ps [] ∧ FnG P w K mg base k f fd ps wf

def Raw (K : PySem.W.Frag) (mg : Str → Option Value) (x : Str) (st : Stmt) : Prop := ∃ f fd, mg x = some (.ref f) ∧ Fun K x x st f fd

theorem raw_mk {K : PySem.W.Frag} {h : Heap} {mg : Str → Option Value} {x : Str} {st : Stmt} (X : K.In h) (G : h.Ns mainGlobals mg) {f : Addr} {od an : Option Addr} {sl : Array (Option Value)} {oc kV dc pm cd ct : Value}
    (a : PySem.W.nsIn K mainGlobals x = some (some (.ref f))) (l : K.lookup f = some ⟨oc, od, .func (PySem.W.fnOf x x (defArgs st) (defBody st) (defScope st) .none kV dc pm an cd ct), sl⟩) (c : PySem.W.codeIn K cd x = true) (k : PySem.W.keepIn K (.ref f) = true) : Raw K mg x st :=
  ⟨f, _, PySem.W.mg_of X G a, fun_mk (st := st) l c k⟩

theorem df_of {P : Program} {w : World} {K : PySem.W.Frag} {mg : Str → Option Value} {base : Heap} {x : Str} {st : Stmt} {N ps : List Str} {k : Nat} {wf : WF} {wb : WS} (r : Raw K mg x st) (Sc : FnScope N ps (defScope st))
    (hbi : ∀ (kV doc pm : Value) (an : Option Addr) (cdv ct : Value) (us : List Value), us.length = ps.length → bindArgs (PySem.W.fnOf x x (defArgs st) (defBody st) (defScope st) .none kV doc pm an cdv ct) ⟨us, []⟩ = pure (ps.zip us))
    (hw : ∀ Z ds μ R, ds.length = ps.length → wf Z ds μ R → wb ⟨fun ρ => R (.d .non) ρ.mm, R, fun _ => False, fun _ => False, fun x ρ => Z x ρ.mm⟩ (rho0 N ds μ))
    (hb : ∀ (f : Addr) (cdv : Value) (A : Around) (outer : List PySem.Env) (s : Shared) (H : Hp) (E : XK) (W : Wd), W.g = mg → CxG (cxOf (L2.CX P w) P w K mg base N x (defScope st) f cdv A outer s H E) (fun cls d _ H => E cls d H) k →
      DSs (cxOf (L2.CX P w) P w K mg base N x (defScope st) f cdv A outer s H E) ⟨W, H⟩ (fun cls d _ H => E cls d H) (defBody st) wb) : Df P w K mg base (k + 1) x st ps wf := by
  obtain ⟨f, fd, h1, F⟩ := r
  exact ⟨f, fd, h1, F, F.binds hbi, ok_def F Sc hw (hb f)⟩

theorem Df.imp {P : Program} {w : World} {K : PySem.W.Frag} {mg : Str → Option Value} {base : Heap} {k : Nat} {x : Str} {st : Stmt} {ps : List Str} {wf wf' : WF} (F : Df P w K mg base k x st ps wf) (h : ∀ Z ds μ R, ds.length = ps.length → wf' Z ds μ R → wf Z ds μ R) : Df P w K mg base k x st ps wf' := by
  obtain ⟨f, fd, h1, h2, h3, h4⟩ := F
  exact ⟨f, fd, h1, h2, h3, h4.imp h⟩

theorem Df.jar {P : Program} {w : World} {K : PySem.W.Frag} {mg : Str → Option Value} {base : Heap} {k : Nat} {x : Str} {st : Stmt} {ps : List Str} {wf wf' : WF} (F : Df P w K mg base k x st ps wf)
    (h : ∀ Z ds μ R, ds.length = ps.length → wf' Z ds μ R → wf Z ds μ fun s μ => ∃ x y z : Int, s = .own [.int x, .int y, .int z] ∧ (-(2 ^ 40) < y ∧ y < 2 ^ 40) ∧ R (.d .jar) μ) : Df P w K mg base k x st ps wf' := by
  obtain ⟨f, fd, h1, h2, h3, h4⟩ := F
  exact ⟨f, fd, h1, h2, h3, h4.jar h⟩

section

variable {X : Cx} {G : Gx} {T : WX} {k j : Nat} {ps : List Str} {wf : WF}

theorem de_callD {x : Str} {st : Stmt} {p pos : Pos} {e : Expr} {es : List Expr} {u : WA} (C : CxG X T k) (hG : G.W.g = X.mg) (F : Df X.prog X.w X.K X.mg X.base j x st ps wf) (hj : j ≤ k) (ha : DA X G T (e :: es) u)
    (hg : Gl X x := by rfl) (hdb : (x == ("__debug__" : Str)) = false := by decide) (he : starEach (e :: es) X.env = (false, eval e X.env) :: starEach es X.env := by rfl) (hpl : (backTo pos (starEach es X.env)).any (·.1) = false := by rfl) :
    DE X G T (.Call (.Name x p) (e :: es) [] pos) (wCall ps.length wf u) := by
  obtain ⟨f, fd, h1, h2, h3, h4⟩ := F
  exact de_call C hG h4 hj h1 h2.kp h3 ha hg hdb he hpl

/-! ### keywords -/

def DK (X : Cx) (G : Gx) (T : WX) (kws : List Keyword) (w : WA) : Prop := PK X kws (lA X.K G T w)

theorem dk_nil : DK X G T [] wNil := ⟨fun po p s σ H Q I ⟨W, ρ, R, Z, ok, h, hR, hZ⟩ => pk_nil.run po p s σ H Q I (hR _ _ _ _ _ h (.refl ok) .nil)⟩

theorem dk_cons {nm : Option Str} {e : Expr} {kpos : Pos} {kws : List Keyword} {wa : WE} {u : WA} (ha : DE X G T e wa) (hr : DK X G T kws u) : DK X G T (⟨nm, e, kpos⟩ :: kws) (wCons wa u) :=
  ⟨fun po p s σ H Q I ⟨W, ρ, R, Z, ok, h, hR, hZ⟩ => (pk_cons (te := lE X.K G T wa) (t := lA X.K G T u) ha hr).run po p s σ H Q I (by
    refine lE_then (R := fun x ρ1 => u Z ρ1 fun xs ρ2 => R (x :: xs) ρ2) ok h hZ fun d ρ1 W1 x H1 h1 g1 d1 => ?_
    exact ⟨W1, ρ1, _, Z, g1.ok, h1, fun ds ρ2 W2 xs H2 h2 g2 d2 => hR _ _ _ _ _ h2 (g1.trans g2) (.cons (d1.le g2.stp.le) d2), hZ.go g1⟩)⟩

/-- the values in the parameters' order -/
def permL {α : Type} (x0 : α) (is : List Nat) (l : List α) : List α := is.map fun i => l.getD i x0

def wCallK (n n1 n2 : Nat) (is : List Nat) (wf : WF) (u uk : WA) : WE := fun Z ρ R => u Z ρ fun ds ρ1 => ds.length = n1 ∧ uk Z ρ1 fun es ρ2 => es.length = n2 ∧ (permL .non is (ds ++ es)).length = n ∧ (∀ i ∈ is, i < (ds ++ es).length) ∧ wf (fun x μ => Z x ⟨ρ2.sl, μ⟩) (permL .non is (ds ++ es)) ρ2.mm fun s μ => R s ⟨ρ2.sl, μ⟩

theorem vals_perm {vs : List V} {us : List Value} (r : Vals vs us) : ∀ {is : List Nat}, (∀ i ∈ is, i < vs.length) → Vals (permL .non is vs) (permL .none is us)
  | [], _ => .nil
  | i :: is, h => by
    have hi := h i (List.mem_cons_self ..)
    obtain ⟨u, e, ru⟩ := r.get (List.getElem?_eq_getElem hi)
    refine .cons ?_ (vals_perm r fun j hj => h j (List.mem_cons_of_mem _ hj))
    show RelV (vs.getD i .non) (us.getD i .none)
    rw [List.getD_eq_getElem?_getD, List.getD_eq_getElem?_getD, e, List.getElem?_eq_getElem hi]
    exact ru

theorem dna_perm {K : PySem.W.Frag} {W : Wd} {H : Hp} {ds : List D} {vs : List V} (r : DnA K W H ds vs) : ∀ {is : List Nat}, (∀ i ∈ is, i < ds.length) → DnA K W H (permL .non is ds) (permL .non is vs)
  | [], _ => .nil
  | i :: is, h => by
    have hi := h i (List.mem_cons_self ..)
    obtain ⟨u, e, ru⟩ := r.get (List.getElem?_eq_getElem hi)
    refine .cons ?_ (dna_perm r fun j hj => h j (List.mem_cons_of_mem _ hj))
    show Dn K W H (ds.getD i .non) (vs.getD i .non)
    rw [List.getD_eq_getElem?_getD, List.getD_eq_getElem?_getD, e, List.getElem?_eq_getElem hi]
    exact ru

theorem de_gintE {x : Str} {i : Int} {pos : Pos} (hm : ∃ t, X.mg x = some (.int i t)) (hg : Gl X x := by rfl) (hd : (x == ("__debug__" : Str)) = false := by decide) : DE X G T (.Name x pos) (wC (.int i)) := by
  obtain ⟨t, h⟩ := hm
  exact de_gint hg h hd

theorem de_gstrE {x : Str} {i : Str} {pos : Pos} (hm : ∃ t, X.mg x = some (.str i t)) (hg : Gl X x := by rfl) (hd : (x == ("__debug__" : Str)) = false := by decide) : DE X G T (.Name x pos) (wC (.str i)) := by
  obtain ⟨t, h⟩ := hm
  exact de_gstr hg h hd

end

theorem gint_mk {K : PySem.W.Frag} {h : Heap} {mg : Str → Option Value} {x : Str} {i : Int} {t : Tok} (X : K.In h) (G : h.Ns mainGlobals mg) (a : PySem.W.nsIn K mainGlobals x = some (some (.int i t))) : ∃ t, mg x = some (.int i t) := ⟨t, PySem.W.mg_of X G a⟩

theorem gstr_mk {K : PySem.W.Frag} {h : Heap} {mg : Str → Option Value} {x : Str} {i : Str} {t : Tok} (X : K.In h) (G : h.Ns mainGlobals mg) (a : PySem.W.nsIn K mainGlobals x = some (some (.str i t))) : ∃ t, mg x = some (.str i t) := ⟨t, PySem.W.mg_of X G a⟩

/-- the law's def is run -/
theorem end_of {P : Program} {w : World} {K : PySem.W.Frag} {mg : Str → Option Value} {k : Nat} {x : Str} {p : Str} {wf : WF} {fa : Addr} {h : Heap} (KX : K.In h) (Gn : h.Ns mainGlobals mg) (hfa : mg x = some (.ref fa)) {st : Stmt} (r : Raw K mg x st)
    (hbi : ∀ (kV doc pm : Value) (an : Option Addr) (cdv ct : Value) (s : Shared) (v : Value), BindsTo s (PySem.W.fnOf x x (defArgs st) (defBody st) (defScope st) .none kV doc pm an cdv ct) ⟨[v], []⟩ [(p, v)])
    (F : ∀ base : Heap, K.In base → TabsB K mg base → Df P w K mg base k x st [p] wf) :
    ∃ fd : FuncData, (∀ (s : Shared) (u : Value), BindsTo s fd ⟨[u], []⟩ [(p, u)]) ∧ ∀ base : Heap, K.In base → base.Ns mainGlobals mg → TabsB K mg base → FnG P w K mg base k fa fd [p] wf := by
  obtain ⟨f, fd, h1, Fu⟩ := r
  rw [hfa] at h1
  cases h1
  obtain ⟨oc, od, kV, doc, pm, an, cdv, ct, osl, rfl, lk, hcd⟩ := Fu.ex
  refine ⟨_, hbi kV doc pm an cdv ct, fun base kb _ TB => ?_⟩
  obtain ⟨f', fd', g1, g2, g3, g4⟩ := F base kb TB
  rw [hfa] at g1
  cases g1
  obtain ⟨oc2, od2, _, _, _, _, _, _, sl2, _, l2, _⟩ := g2.ex
  rw [lk] at l2
  cases l2
  exact g4

end DL








/-! DL5b: slices, range with a step, three names at once. -/

namespace DL

open PySem PySem.Spec L2

section

variable {X : Cx} {G : Gx} {T : WX} {a b c e : Expr} {w wa wb wc : WE} {pos p p2 : Pos} {i : Nat}

abbrev WO := ZK → Rho → (Option Int → Rho → Prop) → Prop

def lO (K : PySem.W.Frag) (G : Gx) (T : WX) (w : WO) : TO := fun σ H Q => ∃ (W : Wd) (ρ : Rho) (R : Option Int → Rho → Prop) (Z : ZK), Ok K G W ρ σ H ∧ w Z ρ R ∧ (∀ o ρ' W' H', R o ρ' → Go K G σ ρ W H ρ' W' H' → Q o H') ∧ lZ K G T Z σ ρ W H

def DO (X : Cx) (G : Gx) (T : WX) (e : Option Expr) (w : WO) : Prop := PO X e (lO X.K G T w)

theorem po_weak {e : Option Expr} {t t' : TO} (h : PO X e t) (i : ∀ σ H Q, t' σ H Q → t σ H Q) : PO X e t' := ⟨fun p s σ H Q I q => h.run p s σ H Q I (i σ H Q q)⟩

def wNoP : WO := fun _ ρ R => R none ρ

def wPart (w : WE) : WO := fun Z ρ R => w Z ρ fun d ρ' => match d.frz with
  | .int i => R (some i) ρ'
  | _ => False

theorem do_none : DO X G T none wNoP := po_weak po_none fun σ H Q ⟨W, ρ, R, Z, ok, h, hR, _⟩ => hR _ _ _ _ h (.refl ok)

theorem do_some (h : DE X G T e w) : DO X G T (some e) (wPart w) := po_weak (po_some h) fun σ H Q ⟨W, ρ, R, Z, ok, h, hR, hZ⟩ => by
  refine lE_then (R := fun d ρ' => match d with | .int i => R (some i) ρ' | _ => False) ok h hZ fun d ρ1 W1 x H1 h1 g1 d1 => ?_
  cases d1 <;> first | exact False.elim h1 | skip
  exact ⟨_, rfl, hR _ _ _ _ h1 g1⟩

def cutD {α : Type} (xs : List α) (lo hi : Option Int) : List α := (xs.drop (HT.sIx xs.length 0 lo)).take (HT.sIx xs.length xs.length hi - HT.sIx xs.length 0 lo)

theorem DnA.cut {K : PySem.W.Frag} {W : Wd} {H : Hp} {ds : List D} {xs : List V} (h : DnA K W H ds xs) (lo hi : Option Int) : DnA K W H (cutD ds lo hi) (cutV xs lo hi) := by
  unfold cutD cutV
  rw [← h.length]
  exact (h.drop _).take _

def fSl (d : D) (lo hi : Option Int) (R : S → Prop) : Prop := match d with
  | .tup ds => R (.d (.tup (cutD ds lo hi)))
  | .lst ds => R (.own (cutD ds lo hi))
  | .rls ds => R (.own (cutD ds lo hi))
  | .str s => s.length ≤ sizeLine ∧ R (.d (.str (cutS s lo hi)))
  | _ => False

def wSl (w : WE) (wl wh : WO) : WE := fun Z ρ R => w Z ρ fun d ρ1 => wl Z ρ1 fun lo ρ2 => wh Z ρ2 fun hi ρ3 => fSl d.frz lo hi fun z => R z ρ3

theorem cut_whole {α : Type} {xs : List α} {lo hi : Option Int} (h : HT.sIx xs.length 0 lo = 0 ∧ HT.sIx xs.length xs.length hi = xs.length) : cutD xs lo hi = xs := by
  unfold cutD
  rw [h.1, h.2]
  simp

theorem lE_sl {K : PySem.W.Frag} {wl wh : WO} {σ : L2.St} {H : Hp} {Q : VK} (h : lE K G T (wSl w wl wh) σ H Q) : tSl (fun x lo hi H Q => (rSlL K x lo hi H Q ∨ rSlA K x lo hi H Q) ∨ rSlS x lo hi H Q) (lE K G T w) (lO K G T wl) (lO K G T wh) σ H Q := by
  obtain ⟨W, ρ, R, Z, ok, h, hR, hZ⟩ := h
  refine lE_then (R := fun d ρ1 => wl Z ρ1 fun lo ρ2 => wh Z ρ2 fun hi ρ3 => fSl d lo hi fun z => R z ρ3) ok h hZ fun d ρ1 W1 x H1 h1 g1 d1 => ?_
  refine ⟨W1, ρ1, _, Z, g1.ok, h1, fun lo ρ2 W2 H2 h2 g2 => ?_, hZ.go g1⟩
  refine ⟨W2, ρ2, _, Z, g2.ok, h2, fun hi ρ3 W3 H3 h3 g3 => ?_, (hZ.go g1).go g2⟩
  have g := (g1.trans g2).trans g3
  have d3 := (d1.le g2.stp.le).le g3.stp.le
  have h3 : fSl d lo hi _ := h3
  unfold fSl at h3
  split at h3
  · cases d3 with | tup e da =>
    have lq := da.length
    refine .inl (.inr ⟨_, _, rfl, e.sq, fun hw => ?_, fun _ q hq => ?_⟩)
    · rw [← lq] at hw
      refine hR _ ρ3 W3 _ H3 h3 g (.of ?_)
      rw [cut_whole hw]
      exact .tup e da
    · exact hR _ ρ3 _ _ _ h3 (g.trans (.newF g.ok hq)) (.of (res_tup g.ok hq (da.cut lo hi)))
  · cases d3 with | lst f e da => exact .inl (.inl ⟨_, _, rfl, SqL.of e, fun q hq => hR _ ρ3 _ _ _ h3 (g.trans (.new g.ok hq)) (res_own g.ok hq (g.stp.up q hq) (da.cut lo hi))⟩)
  · cases d3 with | rls e da => exact .inl (.inl ⟨_, _, rfl, e.sq, fun q hq => hR _ ρ3 _ _ _ h3 (g.trans (.new g.ok hq)) (res_own g.ok hq (g.stp.up q hq) (da.cut lo hi))⟩)
  · cases d3; exact .inr ⟨_, rfl, h3.1, hR _ ρ3 W3 _ H3 h3.2 g (.of (.str _))⟩
  · exact h3.elim

theorem de_sl {lo hi : Option Expr} {wl wh : WO} (he : DE X G T e w) (hl : DO X G T lo wl) (hu : DO X G T hi wh) : DE X G T (.Subscript e (.Slice lo hi none p2) pos) (wSl w wl wh) :=
  pe_weak (pe_slice ((sl_list.or sl_tupA).or sl_str) he hl hu) fun _ _ _ h => lE_sl h

/-- xs[::-1] of a list -/
def fRev (d : D) (R : S → Prop) : Prop := match d with
  | .lst ds => R (.own ds.reverse)
  | .rls ds => R (.own ds.reverse)
  | _ => False

theorem de_rev {k : Nat} {p1 p3 : Pos} (he : DE X G T e w) : DE X G T (.Subscript e (.Slice none none (some (.UnaryOp .USub (.Constant (.int 1) k p1) p2)) p3) pos) (wUn fRev w) :=
  pe_weak (pe_revL he) fun σ H Q h => lE_un (K := X.K) (r := fun x H1 Q => ∃ a xs, x = .ref a ∧ SqL X.K H1 a xs ∧ ∀ p, H1 p = none → Q (.ref p) (upd H1 p (.lst xs.reverse))) (fun G W ρ σ H d x R Q ok hd f k => by
    have f : fRev d R := f
    unfold fRev at f
    split at f
    · cases hd with | lst _ e da => exact ⟨_, _, rfl, SqL.of e, fun q hq => k _ _ _ _ f (.new ok hq) (res_own ok hq hq da.reverse)⟩
    · cases hd with | rls e da => exact ⟨_, _, rfl, e.sq, fun q hq => k _ _ _ _ f (.new ok hq) (res_own ok hq hq da.reverse)⟩
    · exact f.elim) h

/-! ### range(a, b, c) -/

def rangeDC (lo c : Int) (n : Nat) : List D := (List.range n).map fun i => .int (lo + (i : Nat) * c)

def rg3 (ds : List D) (N : List D → Prop) : Prop := match ds with
  | [.int i, .int j, .int c] => ∃ n, RgC i j c n ∧ N (rangeDC i c n)
  | _ => False

/-! ### a, b, c = x, y, z -/

def wPar3 (i j l : Nat) (wa wb wc : WE) : WS := fun E ρ => wa E.ex ρ fun x ρ1 => wb E.ex ρ1 fun y ρ2 => wc E.ex ρ2 fun z ρ3 => E.nx (((ρ3.set i (some x)).set j (some y)).set l (some z))

/-- the own ones of a stored slot -/
theorem ow_set {ρ : Rho} {σ : L2.St} {i : Nat} {s : S} {x : V} {a : Addr} (hl : σ.length = ρ.sl.length) (h : Ow (ρ.set i (some s)) (σ.set i (some x)) a) : (s.isOwn = true ∧ x = .ref a) ∨ Ow ρ σ a := by
  obtain ⟨j, d, h1, h2, h3⟩ := h
  have h1 : (ρ.sl.set i (some s))[j]? = some (some d) := h1
  rcases set_get h1 with ⟨z1, z2⟩ | ⟨z1, z2⟩
  · cases z2; subst z1
    have hi : i < (σ.set i (some x)).length := (List.getElem?_eq_some_iff.mp h3).1
    rw [List.length_set] at hi
    rw [List.getElem?_set_self hi] at h3
    cases h3
    exact .inl ⟨h2, rfl⟩
  · rw [List.getElem?_set_ne z1] at h3
    exact .inr ⟨j, d, z2, h2, h3⟩

theorem lS_par3 {K : PySem.W.Frag} {σ : L2.St} {H : Hp} {D : Ends} {i j l : Nat} (h : lS K G T (wPar3 i j l wa wb wc) D σ H) : lE K G T wa σ H fun x H1 => lE K G T wb σ H1 fun y H2 => lE K G T wc σ H2 fun z H3 => D.nx (((σ.set i (some x)).set j (some y)).set l (some z)) H3 := by
  obtain ⟨W, ρ, E, ok, h, hn, hr, hb, hc, hx⟩ := h
  refine ⟨W, ρ, _, E.ex, ok, h, fun d1 ρ1 W1 x H1 h1 g1 r1 => ?_, hx.z σ ρ⟩
  refine ⟨W1, ρ1, _, E.ex, g1.ok, h1, fun d2 ρ2 W2 y H2 h2 g2 r2 => ?_, (hx.z σ ρ).go g1⟩
  refine ⟨W2, ρ2, _, E.ex, g2.ok, h2, fun d3 ρ3 W3 z H3 h3 g3 r3 => ?_, ((hx.z σ ρ).go g1).go g2⟩
  have a1 := (r1.go ok g1 g2)
  have g12 := g1.trans g2
  have a1' := a1.go ok g12 g3
  have a2' := r2.go g1.ok g2 g3
  have g123 := g12.trans g3
  have f1 := g123.fr ok a1'
  have f2 := (g2.trans g3).fr g1.ok a2'
  have f3 := g3.fr g2.ok r3
  have ne12 : ∀ p, d1.isOwn = true → x = .ref p → d2.isOwn = true → y = .ref p → False := fun p o1 e1 o2 e2 => by
    obtain ⟨q, u, q1, q2⟩ := r1.rs.ow o1
    rw [e1] at q1; cases q1
    rw [(r2.fr o2 p e2).2.2.2] at q2; cases q2
  have ne13 : ∀ p, d1.isOwn = true → x = .ref p → d3.isOwn = true → z = .ref p → False := fun p o1 e1 o2 e2 => by
    obtain ⟨q, u, q1, q2⟩ := a1.rs.ow o1
    rw [e1] at q1; cases q1
    rw [(r3.fr o2 p e2).2.2.2] at q2; cases q2
  have ne23 : ∀ p, d2.isOwn = true → y = .ref p → d3.isOwn = true → z = .ref p → False := fun p o1 e1 o2 e2 => by
    obtain ⟨q, u, q1, q2⟩ := r2.rs.ow o1
    rw [e1] at q1; cases q1
    rw [(r3.fr o2 p e2).2.2.2] at q2; cases q2
  have k1 := g123.ok.set (i := i) a1'.rs f1
  have k2 := k1.set (i := j) a2'.rs fun o p e => ⟨(f2 o p e).1, (f2 o p e).2.1, (f2 o p e).2.2.1, (f2 o p e).2.2.2.1, fun q => (ow_set g123.ok.len q).elim (fun q => ne12 p q.1 q.2 o e) (f2 o p e).2.2.2.2⟩
  have k3 := k2.set (i := l) r3.rs fun o p e => ⟨(f3 o p e).1, (f3 o p e).2.1, (f3 o p e).2.2.1, (f3 o p e).2.2.2.1, fun q => (ow_set k1.len q).elim (fun q => ne23 p q.1 q.2 o e) fun q => (ow_set g123.ok.len q).elim (fun q => ne13 p q.1 q.2 o e) (f3 o p e).2.2.2.2⟩
  exact hn _ W3 _ H3 h3 k3 g123.stp.le

theorem ds_par3 {i j l : Nat} {x y z : Str} {px py pz pt : Pos} {kt k2 pt2} (hN : X.N.Nodup) (ha : DE X G T a wa) (hb : DE X G T b wb) (hcc : DE X G T c wc) (hc : X.calm = true := by rfl) (hi : X.N[i]? = some x := by rfl) (hj : X.N[j]? = some y := by rfl) (hl : X.N[l]? = some z := by rfl) (hij : i ≠ j := by decide) (hil : i ≠ l := by decide) (hjl : j ≠ l := by decide)
    (hx : X.env.scope.names.lookup x = some .local := by rfl) (hy : X.env.scope.names.lookup y = some .local := by rfl) (hz : X.env.scope.names.lookup z = some .local := by rfl)
    (hw : swappedStores [.Tuple [.Name x px, .Name y py, .Name z pz] kt pt] (.Tuple [a, b, c] k2 pt2) X.env = pure (some [x, y, z]) := by rfl)
    (hs : swapsWithSole [.Tuple [.Name x px, .Name y py, .Name z pz] kt pt] (.Tuple [a, b, c] k2 pt2) pos.line X.env = pure false := by rfl)
    (hsa : starEach (a :: [b, c]) X.env = (false, eval a X.env) :: starEach [b, c] X.env := by rfl) (hsb : starEach (b :: [c]) X.env = (false, eval b X.env) :: starEach [c] X.env := by rfl) (hsc : starEach [c] X.env = (false, eval c X.env) :: starEach [] X.env := by rfl) :
    DS X G T (.Assign [.Tuple [.Name x px, .Name y py, .Name z pz] kt pt] (.Tuple [a, b, c] k2 pt2) pos) (wPar3 i j l wa wb wc) :=
  ps_weak (L2.ps_par3 (ta := tCons (lE X.K G T wa) (tCons (lE X.K G T wb) (tCons (lE X.K G T wc) tNil))) hc hN hi hj hl hij hil hjl hx hy hz (pa_cons ha (pa_cons hb (pa_cons hcc pa_nil hsc) hsb) hsa) hw hs) fun D σ H h => by
    obtain ⟨W, ρ, R, Z, ok, h, h1, hZ⟩ := lS_par3 h
    refine ⟨W, ρ, R, Z, ok, h, fun d ρ1 W1 x H1 hr g r => ?_, hZ⟩
    obtain ⟨W', ρ', R', Z', ok', h', h1', hZ'⟩ := h1 d ρ1 W1 x H1 hr g r
    refine ⟨W', ρ', R', Z', ok', h', fun d ρ1 W1 y H1 hr g r => ?_, hZ'⟩
    obtain ⟨W3, ρ3, R3, Z3, ok3, h3, h13, hZ3⟩ := h1' d ρ1 W1 y H1 hr g r
    exact ⟨W3, ρ3, R3, Z3, ok3, h3, fun d ρ1 W1 z H1 hr g r => ⟨x, y, z, rfl, h13 d ρ1 W1 z H1 hr g r⟩, hZ3⟩

/-! ### a, b = x, y by a tuple that is taken apart at once -/

theorem lS_parT {K : PySem.W.Frag} {σ : L2.St} {H : Hp} {D : Ends} {i j : Nat} (h : lS K G T (wPar i j wa wb) D σ H) : lE K G T wa σ H fun x H1 => lE K G T wb σ H1 fun y H2 => ∀ p, H2 p = none → D.nx ((σ.set i (some x)).set j (some y)) (upd H2 p (.tup [x, y])) := by
  obtain ⟨W, ρ, E, ok, h, hn, hr, hb, hc, hx⟩ := h
  refine ⟨W, ρ, _, E.ex, ok, h, fun d1 ρ1 W1 x H1 h1 g1 r1 => ?_, hx.z σ ρ⟩
  refine ⟨W1, ρ1, _, E.ex, g1.ok, h1, fun d2 ρ2 W2 y H2 h2 g2 r2 p hp => ?_, (hx.z σ ρ).go g1⟩
  have g3 := Go.new (o := .tup [x, y]) g2.ok hp
  have a1 := r1.go ok g1 (g2.trans g3)
  have a2 := r2.go g1.ok g2 g3
  have g123 := (g1.trans g2).trans g3
  have f1 := g123.fr ok a1
  have f2 := (g2.trans g3).fr g1.ok a2
  have k1 := g123.ok.set (i := i) a1.rs f1
  have k2 := k1.set (i := j) a2.rs fun o q e => ⟨(f2 o q e).1, (f2 o q e).2.1, (f2 o q e).2.2.1, (f2 o q e).2.2.2.1, fun z => (ow_set g123.ok.len z).elim (fun z => by
    obtain ⟨q', u, q1, q2⟩ := r1.rs.ow z.1
    rw [z.2] at q1; cases q1
    rw [(r2.fr o q e).2.2.2] at q2; cases q2) (f2 o q e).2.2.2.2⟩
  exact hn _ W2 _ _ h2 k2 g123.stp.le

theorem ds_parT {i j : Nat} {x y : Str} {px py pt : Pos} {kt k2 pt2} (hN : X.N.Nodup) (ha : DE X G T a wa) (hb : DE X G T b wb) (hg : PGs X [.Name x px, .Name y py] (gNames [i, j])) (hc : X.calm = true := by rfl)
    (hs : swapsWithSole [.Tuple [.Name x px, .Name y py] kt pt] (.Tuple [a, b] k2 pt2) pos.line X.env = pure false := by rfl) (hw : swappedStores [.Tuple [.Name x px, .Name y py] kt pt] (.Tuple [a, b] k2 pt2) X.env = pure none := by rfl)
    (hh : (assignEach [.Tuple [.Name x px, .Name y py] kt pt] X.env).map (·.2) = [assign (.Tuple [.Name x px, .Name y py] kt pt) X.env] := by rfl) (hn : (assignEach [.Name x px, .Name y py] X.env).length = 2 := by rfl) (hst : (assignEach [.Name x px, .Name y py] X.env).findIdx? (·.1) = none := by rfl)
    (hsa : starEach (a :: [b]) X.env = (false, eval a X.env) :: starEach [b] X.env := by rfl) (hsb : starEach [b] X.env = (false, eval b X.env) :: starEach [] X.env := by rfl) :
    DS X G T (.Assign [.Tuple [.Name x px, .Name y py] kt pt] (.Tuple [a, b] k2 pt2) pos) (wPar i j wa wb) :=
  ps_weak (ps_asg (pe_tup (t := tCons (lE X.K G T wa) (tCons (lE X.K G T wb) tNil)) (pa_cons ha (pa_cons hb pa_nil hsb) hsa)) (pg_tup hc hg hn hst) hs hw hh) fun D σ H h => by
    obtain ⟨W, ρ, R, Z, ok, h, h1, hZ⟩ := lS_parT h
    refine ⟨W, ρ, R, Z, ok, h, fun d ρ1 W1 x H1 hr g r => ?_, hZ⟩
    obtain ⟨W', ρ', R', Z', ok', h', h1', hZ'⟩ := h1 d ρ1 W1 x H1 hr g r
    exact ⟨W', ρ', R', Z', ok', h', fun d ρ1 W1 y H1 hr g r => ⟨by show 2 ≤ sizeLine; decide, fun p hp => ⟨p, [x, y], rfl, SqT.of upd_same, rfl, x, [y], rfl, y, [], rfl, rfl, h1' d ρ1 W1 y H1 hr g r p hp⟩⟩, hZ'⟩

end

end DL







/-! DL7: how readings over data are shown. -/

namespace DL

open PySem PySem.Spec L2

variable {E : DEnds} {ρ : Rho} {Z : ZK} {R : S → Rho → Prop} {u v : WS} {w wa wb wc : WE} {t t' : WT} {i j : Nat}

section

@[simp] theorem x_seq : wSeq u v E ρ = u { E with nx := v E } ρ := rfl

@[simp] theorem x_next : wNext E ρ = E.nx ρ := rfl

@[simp] theorem x_brk : wBrk E ρ = E.bk ρ := rfl

@[simp] theorem x_cnt : wCnt E ρ = E.ct ρ := rfl

@[simp] theorem x_drop : wDrop w E ρ = w E.ex ρ fun _ ρ' => E.nx ρ' := rfl

@[simp] theorem x_ret : wRet w E ρ = w E.ex ρ fun d ρ' => E.rt d ρ'.mm := rfl

@[simp] theorem x_retN : wRetN E ρ = E.rt (.d .non) ρ.mm := rfl

@[simp] theorem x_if : wIf t u v E ρ = t E.ex ρ fun c ρ1 => if c = true then u E ρ1 else v E ρ1 := rfl

@[simp] theorem x_set : wSet i w E ρ = w E.ex ρ fun d ρ' => E.nx (ρ'.set i (some d)) := rfl

@[simp] theorem x_par : wPar i j wa wb E ρ = wa E.ex ρ fun x ρ1 => wb E.ex ρ1 fun y ρ2 => E.nx ((ρ2.set i (some x)).set j (some y)) := rfl

@[simp] theorem x_asgN {f : TgF} : wAsgN f w E ρ = w E.ex ρ fun d ρ' => f d.frz fun l => E.nx (storesR ρ' l) := rfl

@[simp] theorem x_for {wi : WI} {f : TgF} : wFor wi f u E ρ = wi E.ex ρ fun ds ρ1 => wForL f u E ds ρ1 := rfl

@[simp] theorem x_var : wVar i Z ρ R = (match ρ.sl[i]? with | some (some d) => R (.d d.frz) (if d.isOwn = true then ρ.set i (some (.d d.frz)) else ρ) | _ => False) := rfl

@[simp] theorem x_c {d : D} : wC d Z ρ R = R (.d d) ρ := rfl

@[simp] theorem x_bin {f : D → D → (S → Prop) → Prop} : wBin f wa wb Z ρ R = wa Z ρ fun x ρ1 => wb Z ρ1 fun y ρ2 => f x.frz y.frz fun z => R z ρ2 := rfl

@[simp] theorem x_un {f : D → (S → Prop) → Prop} : wUn f wa Z ρ R = wa Z ρ fun x ρ1 => f x.frz fun z => R z ρ1 := rfl

@[simp] theorem x_b {R : Bool → Rho → Prop} : wB w Z ρ R = w Z ρ fun d ρ' => d.isB fun b => R b ρ' := rfl

@[simp] theorem x_and {R : Bool → Rho → Prop} : wAnd t t' Z ρ R = t Z ρ fun c ρ1 => if c = true then t' Z ρ1 R else R false ρ1 := rfl

@[simp] theorem x_or {R : Bool → Rho → Prop} : wOr t t' Z ρ R = t Z ρ fun c ρ1 => if c = true then R true ρ1 else t' Z ρ1 R := rfl

@[simp] theorem x_not {R : Bool → Rho → Prop} : wNot t Z ρ R = t Z ρ fun c ρ1 => R (!c) ρ1 := rfl

@[simp] theorem x_andV : wAndV wa wb Z ρ R = wa Z ρ fun x ρ1 => x.isB fun c => if c = true then wb Z ρ1 R else R (.d (.bl false)) ρ1 := rfl

@[simp] theorem x_orV : wOrV wa wb Z ρ R = wa Z ρ fun x ρ1 => x.isB fun c => if c = true then R (.d (.bl true)) ρ1 else wb Z ρ1 R := rfl

@[simp] theorem x_notV : wNotV wa Z ρ R = wa Z ρ fun x ρ1 => x.isB fun c => R (.d (.bl (!c))) ρ1 := rfl

@[simp] theorem x_ifE : wIfE t wa wb Z ρ R = t Z ρ fun c ρ1 => if c = true then wa Z ρ1 R else wb Z ρ1 R := rfl

@[simp] theorem x_nil {R : List D → Rho → Prop} : wNil Z ρ R = R [] ρ := rfl

@[simp] theorem x_cons {u : WA} {R : List D → Rho → Prop} : wCons w u Z ρ R = w Z ρ fun x ρ1 => u Z ρ1 fun xs ρ2 => R (x.frz :: xs) ρ2 := rfl

@[simp] theorem x_tup {u : WA} : wTup u Z ρ R = u Z ρ fun ds ρ1 => ds.length ≤ sizeLine ∧ R (.d (.tup ds)) ρ1 := rfl

@[simp] theorem x_lst {u : WA} : wLst u Z ρ R = u Z ρ fun ds ρ1 => ds.length ≤ sizeLine ∧ R (.own ds) ρ1 := rfl

@[simp] theorem x_callB {f : List D → (S → Prop) → Prop} {u : WA} : wCallB f u Z ρ R = u Z ρ fun ds ρ1 => f ds fun z => R z ρ1 := rfl

@[simp] theorem x_call {n : Nat} {wf : WF} {u : WA} : wCall n wf u Z ρ R = u Z ρ fun ds ρ1 => ds.length = n ∧ wf (fun x μ => Z x ⟨ρ1.sl, μ⟩) ds ρ1.mm fun s μ => R s ⟨ρ1.sl, μ⟩ := rfl

@[simp] theorem x_callK {n n1 n2 : Nat} {is : List Nat} {wf : WF} {u uk : WA} : wCallK n n1 n2 is wf u uk Z ρ R = u Z ρ fun ds ρ1 => ds.length = n1 ∧ uk Z ρ1 fun es ρ2 => es.length = n2 ∧ (permL .non is (ds ++ es)).length = n ∧ (∀ i ∈ is, i < (ds ++ es).length) ∧ wf (fun x μ => Z x ⟨ρ2.sl, μ⟩) (permL .non is (ds ++ es)) ρ2.mm fun s μ => R s ⟨ρ2.sl, μ⟩ := rfl

@[simp] theorem x_ixV : wIxV i w Z ρ R = ((∃ s0, ρ.sl[i]? = some (some s0)) ∧ w Z ρ fun k ρ1 => match ρ1.sl[i]? with | some (some s) => fIx s.frz k.frz fun z => R z ρ1 | _ => False) := rfl

@[simp] theorem x_lenV : wLenV i Z ρ R = (match ρ.sl[i]? with | some (some s) => fLen [s.frz] fun z => R z ρ | _ => False) := rfl

@[simp] theorem x_opV {f : D → D → (S → Prop) → Prop} : wOpV i f wb Z ρ R = ((∃ s0, ρ.sl[i]? = some (some s0)) ∧ wb Z ρ fun y ρ1 => match ρ1.sl[i]? with | some (some s) => f s.frz y.frz fun z => R z ρ1 | _ => False) := rfl

@[simp] theorem x_opW {f : D → D → (S → Prop) → Prop} : wOpW wa i f Z ρ R = (wa Z ρ fun x ρ1 => match ρ1.sl[i]? with | some (some s) => f x.frz s.frz fun z => R z ρ1 | _ => False) := rfl

@[simp] theorem x_app : wApp i w E ρ = ((∃ d0, ρ.sl[i]? = some (some (.own d0))) ∧ w E.ex ρ fun d ρ1 => match ρ1.sl[i]? with | some (some (.own ds)) => ds.length < sizeLine ∧ E.nx (ρ1.set i (some (.own (ds ++ [d.frz])))) | _ => False) := rfl

@[simp] theorem x_setIx {wk : WE} : wSetIx i wk w E ρ = (w E.ex ρ fun d ρ1 => (∃ s0, ρ1.sl[i]? = some (some s0)) ∧ wk E.ex ρ1 fun k ρ2 => match ρ2.sl[i]? with | some (some s) => sIx s k.frz d.frz fun s' => E.nx (if s.isOwn = true then ρ2.set i (some s') else ρ2) | _ => False) := rfl

@[simp] theorem x_items {N : List D → Rho → Prop} : wItems w Z ρ N = w Z ρ fun d ρ' => ∃ ds, d.frz.items = some ds ∧ N ds ρ' := rfl

@[simp] theorem x_rng {f : List D → (List D → Prop) → Prop} {u : WA} {N : List D → Rho → Prop} : wRng f u Z ρ N = u Z ρ fun ds ρ' => f ds fun l => N l ρ' := rfl

@[simp] theorem x_yes {R : Bool → Rho → Prop} : wYes Z ρ R = R true ρ := rfl

@[simp] theorem x_sl {wl wh : WO} : wSl w wl wh Z ρ R = w Z ρ fun d ρ1 => wl Z ρ1 fun lo ρ2 => wh Z ρ2 fun hi ρ3 => fSl d.frz lo hi fun z => R z ρ3 := rfl

@[simp] theorem x_nop {R : Option Int → Rho → Prop} : wNoP Z ρ R = R none ρ := rfl

@[simp] theorem x_part {R : Option Int → Rho → Prop} : wPart w Z ρ R = w Z ρ fun d ρ' => match d.frz with | .int i => R (some i) ρ' | _ => False := rfl

@[simp] theorem x_chain {f f' : D → D → (S → Prop) → Prop} : wChain f f' wa wb wc Z ρ R = wa Z ρ fun x ρ1 => wb Z ρ1 fun y ρ2 => f x.frz y.frz fun z => z.isB fun k => if k = true then wc Z ρ2 fun u ρ3 => f' y.frz u.frz fun z => R z ρ3 else R (.d (.bl false)) ρ2 := rfl

@[simp] theorem s_frz_d {d : D} : (S.d d).frz = d := rfl

@[simp] theorem s_frz_own {ds : List D} : (S.own ds).frz = .lst ds := rfl

@[simp] theorem s_own_d {d : D} : (S.d d).isOwn = false := rfl

@[simp] theorem s_own_own {ds : List D} : (S.own ds).isOwn = true := rfl

@[simp] theorem s_isB {b : Bool} {R : Bool → Prop} : (S.d (.bl b)).isB R = R b := rfl

@[simp] theorem s_i2 {g : Int → Int → D} {a b : Int} {R : S → Prop} : fI2 g (.int a) (.int b) R = R (.d (g a b)) := rfl

@[simp] theorem s_sub {a b : Int} {R : S → Prop} : fSub (.int a) (.int b) R = R (.d (.int (a - b))) := rfl

@[simp] theorem s_addI {a b : Int} {R : S → Prop} : fAdd (.int a) (.int b) R = R (.d (.int (a + b))) := rfl

@[simp] theorem s_addT {a b : List D} {R : S → Prop} : fAdd (.tup a) (.tup b) R = (a.length + b.length ≤ sizeLine ∧ R (.d (.tup (a ++ b)))) := rfl

@[simp] theorem s_addL {a b : List D} {R : S → Prop} : fAdd (.lst a) (.lst b) R = (a.length + b.length ≤ sizeLine ∧ R (.own (a ++ b))) := rfl

@[simp] theorem s_mulI {a b : Int} {R : S → Prop} : fMul (.int a) (.int b) R = (MulOk a b ∧ R (.d (.int (a * b)))) := rfl

@[simp] theorem s_divI {a b : Int} {R : S → Prop} : fDiv (.int a) (.int b) R = (DivOk a b ∧ R (.d (.int (a.fdiv b)))) := rfl

@[simp] theorem s_modI {a b : Int} {R : S → Prop} : fMod (.int a) (.int b) R = (b ≠ 0 ∧ R (.d (.int (a.fmod b)))) := rfl

@[simp] theorem s_powI {a b : Int} {R : S → Prop} : fPow (.int a) (.int b) R = (CPow a b ∧ R (.d (.int (a ^ b.toNat)))) := rfl

@[simp] theorem s_neg {a : Int} {R : S → Prop} : fNeg (.int a) R = R (.d (.int (-a))) := rfl

@[simp] theorem s_eqI {a b : Int} {R : S → Prop} : fEq (.int a) (.int b) R = R (.d (.bl (a == b))) := by
  unfold fEq; simp [D.cmpOk, D.okSc, D.scl, D.eqb, D.py, PyData.eqv]

@[simp] theorem s_neI {a b : Int} {R : S → Prop} : fNe (.int a) (.int b) R = R (.d (.bl (!(a == b)))) := by
  unfold fNe; simp [D.cmpOk, D.okSc, D.scl, D.eqb, D.py, PyData.eqv]

@[simp] theorem s_int1 {a : Int} {R : S → Prop} : fInt [.int a] R = R (.d (.int a)) := rfl

@[simp] theorem s_abs {a : Int} {R : S → Prop} : fAbs [.int a] R = R (.d (.int (if a < 0 then -a else a))) := rfl

@[simp] theorem s_max2 {a b : Int} {R : S → Prop} : fMax2 [.int a, .int b] R = R (.d (.int (if b > a then b else a))) := rfl

@[simp] theorem s_min2 {a b : Int} {R : S → Prop} : fMin2 [.int a, .int b] R = R (.d (.int (if b < a then b else a))) := rfl

@[simp] theorem s_lenT {ds : List D} {R : S → Prop} : fLen [.tup ds] R = R (.d (.int ds.length)) := by simp [fLen, D.items]

@[simp] theorem s_lenL {ds : List D} {R : S → Prop} : fLen [.lst ds] R = R (.d (.int ds.length)) := by simp [fLen, D.items]

@[simp] theorem s_lenR {ds : List D} {R : S → Prop} : fLen [.rls ds] R = R (.d (.int ds.length)) := by simp [fLen, D.items]

@[simp] theorem s_tupL {ds : List D} {R : S → Prop} : fTuple [.lst ds] R = R (.d (.tup ds)) := by simp [fTuple, D.items]

@[simp] theorem s_tupT {ds : List D} {R : S → Prop} : fTuple [.tup ds] R = R (.d (.tup ds)) := by simp [fTuple, D.items]

@[simp] theorem s_lstT {ds : List D} {R : S → Prop} : fList [.tup ds] R = R (.own ds) := by simp [fList, D.items]

@[simp] theorem s_lstL {ds : List D} {R : S → Prop} : fList [.lst ds] R = R (.own ds) := by simp [fList, D.items]

@[simp] theorem i_t {ds : List D} : (D.tup ds).items = some ds := rfl

@[simp] theorem i_l {ds : List D} : (D.lst ds).items = some ds := rfl

@[simp] theorem i_r {ds : List D} : (D.rls ds).items = some ds := rfl

@[simp] theorem f_name {i : Nat} {d : D} {N : List (Nat × D) → Prop} : fName i d N = N [(i, d)] := rfl

@[simp] theorem f_tup {is : List Nat} {ds : List D} {N : List (Nat × D) → Prop} : fTupN is (.tup ds) N = (ds.length = is.length ∧ N (is.zip ds)) := rfl

@[simp] theorem st_nil {ρ : Rho} : storesR ρ [] = ρ := rfl

@[simp] theorem st_cons {ρ : Rho} {p : Nat × D} {l : List (Nat × D)} : storesR ρ (p :: l) = storesR (ρ.set p.1 (some (.d p.2))) l := rfl

@[simp] theorem wi_nil {ρ : Rho} : wipeR ρ [] = ρ := rfl

@[simp] theorem wi_cons {ρ : Rho} {i : Nat} {is : List Nat} : wipeR ρ (i :: is) = (wipeR ρ is).set i none := rfl

@[simp] theorem isN_non {R : Bool → Prop} : D.isNon .non R = R true := rfl

@[simp] theorem isN_tup {ds : List D} {R : Bool → Prop} : D.isNon (.tup ds) R = R false := rfl

@[simp] theorem isN_int {i : Int} {R : Bool → Prop} : D.isNon (.int i) R = R false := rfl

@[simp] theorem isN_lst {ds : List D} {R : Bool → Prop} : D.isNon (.lst ds) R = R false := rfl

@[simp] theorem isN_str {s : Str} {R : Bool → Prop} : D.isNon (.str s) R = R false := rfl

end

/-- what is never come to -/
def wNever : WS := fun _ _ => False

@[simp] theorem x_never : wNever E ρ = False := rfl

/-- x is None, x is not None -/
def fIs (d : D) (R : S → Prop) : Prop := d.isNon fun b => R (.d (.bl b))

def fIsn (d : D) (R : S → Prop) : Prop := d.isNon fun b => R (.d (.bl (!b)))

@[simp] theorem x_is {d : D} {R : S → Prop} : fIs d R = d.isNon fun b => R (.d (.bl b)) := rfl

@[simp] theorem x_isn {d : D} {R : S → Prop} : fIsn d R = d.isNon fun b => R (.d (.bl (!b))) := rfl

/-! ### loops -/

end DL







/-! DL8: isinstance by constructors, small facts. -/

namespace DL

open PySem PySem.Spec L2

theorem kb_1 : kitB "NoneType" "int" = some false := by decide +kernel

theorem kb_2 : kitB "bool" "int" = some true := by decide +kernel

theorem kb_3 : kitB "int" "int" = some true := by decide +kernel

theorem kb_4 : kitB "str" "int" = some false := by decide +kernel

theorem kb_5 : kitB "tuple" "int" = some false := by decide +kernel

theorem kb_6 : kitB "list" "int" = some false := by decide +kernel

theorem kb_7 : kitB "dict" "int" = some false := by decide +kernel

theorem kb_8 : kitB "NoneType" "bool" = some false := by decide +kernel

theorem kb_9 : kitB "bool" "bool" = some true := by decide +kernel

theorem kb_10 : kitB "int" "bool" = some false := by decide +kernel

theorem kb_11 : kitB "str" "bool" = some false := by decide +kernel

theorem kb_12 : kitB "tuple" "bool" = some false := by decide +kernel

theorem kb_13 : kitB "list" "bool" = some false := by decide +kernel

theorem kb_14 : kitB "dict" "bool" = some false := by decide +kernel

theorem kb_15 : kitB "NoneType" "tuple" = some false := by decide +kernel

theorem kb_16 : kitB "bool" "tuple" = some false := by decide +kernel

theorem kb_17 : kitB "int" "tuple" = some false := by decide +kernel

theorem kb_18 : kitB "str" "tuple" = some false := by decide +kernel

theorem kb_19 : kitB "tuple" "tuple" = some true := by decide +kernel

theorem kb_20 : kitB "list" "tuple" = some false := by decide +kernel

theorem kb_21 : kitB "dict" "tuple" = some false := by decide +kernel

theorem kb_22 : kitB "NoneType" "str" = some false := by decide +kernel

theorem kb_23 : kitB "bool" "str" = some false := by decide +kernel

theorem kb_24 : kitB "int" "str" = some false := by decide +kernel

theorem kb_25 : kitB "str" "str" = some true := by decide +kernel

theorem kb_26 : kitB "tuple" "str" = some false := by decide +kernel

theorem kb_27 : kitB "list" "str" = some false := by decide +kernel

theorem kb_28 : kitB "dict" "str" = some false := by decide +kernel

def D.known (d : D) : Bool := d.tyName.isSome

def D.isI : D → Bool
  | .int _ => true
  | _ => false

def D.isT : D → Bool
  | .tup _ => true
  | _ => false

def D.isS : D → Bool
  | .str _ => true
  | _ => false

def D.isBl : D → Bool
  | .bl _ => true
  | _ => false

theorem isi_int {d : D} {R : S → Prop} (h : d.known = true) : fIsi [d, .v (.ty "int")] R = R (.d (.bl (d.isI || d.isBl))) := by
  cases d <;> first | (cases h; done) | simp [fIsi, D.tyName, D.isI, D.isBl, kb_1, kb_2, kb_3, kb_4, kb_5, kb_6, kb_7]

theorem isi_bool {d : D} {R : S → Prop} (h : d.known = true) : fIsi [d, .v (.ty "bool")] R = R (.d (.bl d.isBl)) := by
  cases d <;> first | (cases h; done) | simp [fIsi, D.tyName, D.isBl, kb_8, kb_9, kb_10, kb_11, kb_12, kb_13, kb_14]

theorem isi_tuple {d : D} {R : S → Prop} (h : d.known = true) : fIsi [d, .v (.ty "tuple")] R = R (.d (.bl d.isT)) := by
  cases d <;> first | (cases h; done) | simp [fIsi, D.tyName, D.isT, kb_15, kb_16, kb_17, kb_18, kb_19, kb_20, kb_21]

theorem isi_str {d : D} {R : S → Prop} (h : d.known = true) : fIsi [d, .v (.ty "str")] R = R (.d (.bl d.isS)) := by
  cases d <;> first | (cases h; done) | simp [fIsi, D.tyName, D.isS, kb_22, kb_23, kb_24, kb_25, kb_26, kb_27, kb_28]

@[simp] theorem known_int {i : Int} : (D.int i).known = true := by unfold D.known D.tyName; rfl

@[simp] theorem known_tup {ds : List D} : (D.tup ds).known = true := by unfold D.known D.tyName; rfl

@[simp] theorem known_str {s : Str} : (D.str s).known = true := by unfold D.known D.tyName; rfl

@[simp] theorem known_bl {b : Bool} : (D.bl b).known = true := by unfold D.known D.tyName; rfl

@[simp] theorem known_non : D.non.known = true := by unfold D.known D.tyName; rfl

@[simp] theorem known_lst {ds : List D} : (D.lst ds).known = true := by unfold D.known D.tyName; rfl

theorem mapInj {α β : Type} {f : α → β} (hf : ∀ a b, f a = f b → a = b) : ∀ {a b : List α}, a.map f = b.map f → a = b
  | [], [], _ => rfl
  | [], _ :: _, h => by cases h
  | _ :: _, [], h => by cases h
  | x :: xs, y :: ys, h => by
    rw [List.map_cons, List.map_cons] at h
    injection h with h1 h2
    rw [hf _ _ h1, mapInj hf h2]

/-! ### all and any of tests -/

@[simp] theorem s_allB {bs : List Bool} {R : S → Prop} : fAll [.lst (bs.map .bl)] R = R (.d (.bl (bs.all id))) := by
  unfold fAll
  refine propext ⟨fun ⟨cs, e, h⟩ => ?_, fun h => ⟨bs, rfl, h⟩⟩
  have e' : bs.map D.bl = cs.map D.bl := by injection e with e _; injection e
  have : bs = cs := mapInj (fun a b h => by injection h) e'
  rwa [this]

@[simp] theorem s_anyB {bs : List Bool} {R : S → Prop} : fAny [.lst (bs.map .bl)] R = R (.d (.bl (bs.any id))) := by
  unfold fAny
  refine propext ⟨fun ⟨cs, e, h⟩ => ?_, fun h => ⟨bs, rfl, h⟩⟩
  have e' : bs.map D.bl = cs.map D.bl := by injection e with e _; injection e
  have : bs = cs := mapInj (fun a b h => by injection h) e'
  rwa [this]

theorem all_map {α : Type} {ds : List α} {p : α → Bool} {R : S → Prop} : fAll [.lst (ds.map fun d => .bl (p d))] R = R (.d (.bl (ds.all p))) := by
  have : (ds.map fun d => D.bl (p d)) = (ds.map p).map .bl := by simp
  rw [this, s_allB]
  simp [List.all_map]

theorem any_map {α : Type} {ds : List α} {p : α → Bool} {R : S → Prop} : fAny [.lst (ds.map fun d => .bl (p d))] R = R (.d (.bl (ds.any p))) := by
  have : (ds.map fun d => D.bl (p d)) = (ds.map p).map .bl := by simp
  rw [this, s_anyB]
  simp [List.any_map]

theorem int_inj {a b : List Int} (h : a.map D.int = b.map D.int) : a = b := mapInj (fun a b h => by injection h) h

@[simp] theorem s_sumL {ns : List Int} {R : S → Prop} : fSum [.lst (ns.map .int)] R = R (.d (.int ns.sum)) := by
  unfold fSum fInts
  refine propext ⟨fun ⟨ms, e, h⟩ => ?_, fun h => ⟨ns, .inl rfl, h⟩⟩
  rcases e with e | e
  · have : ns = ms := int_inj (by injection e with e _; injection e)
    rwa [this]
  · injection e with e _; cases e

/-- the ints as data -/
abbrev tI (ns : List Int) : D := .tup (ns.map .int)

abbrev gI (ns : List Int) : D := .lst (ns.map .int)

theorem atI_pos {α : Type} {xs : List α} {i : Int} {x : α} (h0 : 0 ≤ i) (h : xs[i.toNat]? = some x) : L2.atI xs i = some x := by
  obtain ⟨n, rfl⟩ := Int.eq_ofNat_of_zero_le h0
  exact L2.atI_nat (by simpa using h)

end DL









/-! DL9: data that may be compared and shown. -/

namespace DL

open PySem PySem.Spec L2

mutual
/-- at most n deep, ints of at most 200 bits, good texts -/
def D.nice : Nat → D → Bool
  | _, .non => true
  | _, .bl _ => true
  | _, .int i => decide (i.natAbs < 2 ^ 200)
  | _, .str s => PyData.strOk s
  | n + 1, .tup ds => D.niceA n ds
  | n + 1, .lst ds => D.niceA n ds
  | n + 1, .rls ds => D.niceA n ds
  | _, _ => false
def D.niceA : Nat → List D → Bool
  | _, [] => true
  | n, d :: ds => D.nice n d && D.niceA n ds
end

mutual
def D.wt : D → Nat
  | .int _ => 200
  | .str s => s.cps.size
  | .tup ds => D.wtA ds
  | .lst ds => D.wtA ds
  | .rls ds => D.wtA ds
  | _ => 0
def D.wtA : List D → Nat
  | [] => 0
  | d :: ds => D.wt d + 1 + D.wtA ds
end

theorem showLen (i : Int) (h : (Nat.toDigits 10 i.natAbs).length ≤ 61) : (Str.ofString (toString i)).length ≤ 64 := by
  have nat : ∀ m : Nat, (Nat.toDigits 10 m).length ≤ 61 → (Str.ofString (toString (Int.ofNat m))).length ≤ 61 := fun m hm => by
    rw [PyProof.Rows.ofString_len]
    show (Nat.repr m).length ≤ 61
    simpa [Nat.repr] using hm
  by_cases z : i < 0
  · rw [PyProof.Rows.len_text_neg z]
    have e : (0 : Int) - i = Int.ofNat i.natAbs := by simp; omega
    have := nat i.natAbs h
    rw [e]; omega
  · have e : i = Int.ofNat i.natAbs := by simp; omega
    have := nat i.natAbs h
    rw [← e] at this; omega

mutual
theorem nice_of : ∀ (n : Nat) (d : D), d.nice n = true → d.isPy = true ∧ d.py.canLay0 = true ∧ d.py.depth ≤ n ∧ d.py.showable = true ∧ d.py.intsShort 64 = true ∧ d.py.weight ≤ d.wt
  | _, .non, _ => ⟨rfl, rfl, Nat.zero_le _, rfl, rfl, Nat.le_refl _⟩
  | _, .bl _, _ => ⟨rfl, rfl, Nat.zero_le _, rfl, rfl, Nat.le_refl _⟩
  | _, .int i, h => by
    have h : i.natAbs < 2 ^ 200 := of_decide_eq_true (by simpa only [D.nice] using h)
    have l : i ≠ 0 → i.natAbs.log2 < 200 := fun z => (Nat.log2_lt (by omega)).mpr h
    have d := PyProof.Rows.digits10_le (k := 61) (n := i.natAbs) (by decide) (Nat.lt_of_lt_of_le h (by decide +kernel))
    refine ⟨rfl, rfl, Nat.zero_le _, ?_, ?_, ?_⟩
    · by_cases z : i = 0
      · subst z; decide
      · simp only [D.py, PyData.showable, decide_eq_true_eq]; have := l z; omega
    · simp only [D.py, PyData.intsShort, decide_eq_true_eq, PyData.shown]
      exact decide_eq_true (showLen i d)
    · by_cases z : i = 0
      · subst z; decide
      · have := l z
        simp only [D.py, PyData.weight, D.wt]
        split <;> omega
  | _, .str s, h => ⟨rfl, by simpa only [D.py, PyData.canLay0, D.nice] using h, Nat.zero_le _, rfl, rfl, Nat.le_refl _⟩
  | n + 1, .tup ds, h => by
    obtain ⟨a, b, c, d, e, f⟩ := niceA_of n ds (by simpa only [D.nice] using h)
    exact ⟨a, by simpa only [D.py, PyData.canLay0] using b, by simp only [D.py, PyData.depth]; omega, by simpa only [D.py, PyData.showable] using d, by simpa only [D.py, PyData.intsShort] using e, by simpa only [D.py, PyData.weight, D.wt] using f⟩
  | n + 1, .lst ds, h => by
    obtain ⟨a, b, c, d, e, f⟩ := niceA_of n ds (by simpa only [D.nice] using h)
    exact ⟨a, by simpa only [D.py, PyData.canLay0] using b, by simp only [D.py, PyData.depth]; omega, by simpa only [D.py, PyData.showable] using d, by simpa only [D.py, PyData.intsShort] using e, by simpa only [D.py, PyData.weight, D.wt] using f⟩
  | n + 1, .rls ds, h => by
    obtain ⟨a, b, c, d, e, f⟩ := niceA_of n ds (by simpa only [D.nice] using h)
    exact ⟨a, by simpa only [D.py, PyData.canLay0] using b, by simp only [D.py, PyData.depth]; omega, by simpa only [D.py, PyData.showable] using d, by simpa only [D.py, PyData.intsShort] using e, by simpa only [D.py, PyData.weight, D.wt] using f⟩
  | 0, .tup _, h => by simp [D.nice] at h
  | 0, .lst _, h => by simp [D.nice] at h
  | 0, .rls _, h => by simp [D.nice] at h
  | 0, .exc _ _, h => by simp [D.nice] at h
  | 0, .jar, h => by simp [D.nice] at h
  | 0, .v _, h => by simp [D.nice] at h
  | 0, .dic _, h => by simp [D.nice] at h
  | 0, .ins _ _, h => by simp [D.nice] at h
  | 0, .cell _, h => by simp [D.nice] at h
  | 0, .cls _, h => by simp [D.nice] at h
  | n + 1, .exc _ _, h => by simp [D.nice] at h
  | n + 1, .jar, h => by simp [D.nice] at h
  | n + 1, .v _, h => by simp [D.nice] at h
  | n + 1, .dic _, h => by simp [D.nice] at h
  | n + 1, .ins _ _, h => by simp [D.nice] at h
  | n + 1, .cell _, h => by simp [D.nice] at h
  | n + 1, .cls _, h => by simp [D.nice] at h
theorem niceA_of : ∀ (n : Nat) (ds : List D), D.niceA n ds = true → D.arePy ds = true ∧ PyData.canLayAll0 (D.pys ds) = true ∧ PyData.depthAll (D.pys ds) ≤ n ∧ PyData.showableAll (D.pys ds) = true ∧ PyData.intsShortAll 64 (D.pys ds) = true ∧ PyData.weightAll (D.pys ds) ≤ D.wtA ds
  | _, [], _ => ⟨rfl, rfl, Nat.zero_le _, rfl, rfl, Nat.le_refl _⟩
  | n, d :: ds, h => by
    have h : (d.nice n && D.niceA n ds) = true := by simpa only [D.niceA] using h
    rw [Bool.and_eq_true] at h
    obtain ⟨a, b, c, e, f, g⟩ := nice_of n d h.1
    obtain ⟨a', b', c', e', f', g'⟩ := niceA_of n ds h.2
    refine ⟨by simp only [D.arePy, a, a', Bool.and_self], by simp only [D.pys, PyData.canLayAll0, b, b', Bool.and_self], ?_, by simp only [D.pys, PyData.showableAll, e, e', Bool.and_self], by simp only [D.pys, PyData.intsShortAll, f, f', Bool.and_self], ?_⟩
    · simp only [D.pys, PyData.depthAll]; omega
    · simp only [D.pys, PyData.weightAll, D.wtA]; omega
end

theorem okRepr_of {n : Nat} {d : D} (h : d.nice n = true) (hn : n ≤ 60) (hw : d.wt ≤ 200000) : d.okRepr := by
  obtain ⟨a, b, c, e, f, g⟩ := nice_of n d h
  refine ⟨a, e, Nat.le_trans c hn, ?_⟩
  have := PyData.shown_le 64 (by decide) _ (PyData.leavesShort_of_canLay0 64 _ b f)
  have : sizeLine = 2 ^ 24 := rfl
  have : (2 : Nat) ^ 24 = 16777216 := by decide
  omega

mutual
theorem eqv_self : ∀ d : D, d.isPy = true → PyData.eqv d.py d.py = true
  | .non, _ => rfl
  | .bl b, _ => by simp [D.py, PyData.eqv]
  | .int _, _ => by simp [D.py, PyData.eqv]
  | .str _, _ => by simp [D.py, PyData.eqv]
  | .tup ds, h => by simpa only [D.py, PyData.eqv] using eqvA_self ds h
  | .lst ds, h => by simpa only [D.py, PyData.eqv] using eqvA_self ds h
  | .rls ds, h => by simpa only [D.py, PyData.eqv] using eqvA_self ds h
  | .exc _ _, h => by cases h
  | .jar, h => by cases h
  | .v _, h => by cases h
  | .dic _, h => by cases h
  | .ins _ _, h => by cases h
  | .cell _, h => by cases h
  | .cls _, h => by cases h
theorem eqvA_self : ∀ ds : List D, D.arePy ds = true → PyData.eqvAll (D.pys ds) (D.pys ds) = true
  | [], _ => rfl
  | d :: ds, h => by
    have h : (d.isPy && D.arePy ds) = true := h
    rw [Bool.and_eq_true] at h
    simp only [D.pys, PyData.eqvAll, eqv_self d h.1, eqvA_self ds h.2, Bool.and_self]
end

@[simp] theorem s_eqS {a b : Str} {R : S → Prop} : fEq (.str a) (.str b) R = R (.d (.bl (a == b))) := by
  unfold fEq; simp [D.cmpOk, D.okSc, D.scl, D.eqb, D.py, PyData.eqv]

@[simp] theorem s_neS {a b : Str} {R : S → Prop} : fNe (.str a) (.str b) R = R (.d (.bl (!(a == b)))) := by
  unfold fNe; simp [D.cmpOk, D.okSc, D.scl, D.eqb, D.py, PyData.eqv]

/-! ### nice lists -/

theorem nice_int {n : Nat} {i : Int} (h : i.natAbs < 2 ^ 200) : (D.int i).nice n = true := by
  cases n <;> simp only [D.nice, decide_eq_true_eq] <;> exact h

/-! ### equality of data of one kind -/

theorem eqbA_map {α : Type} [DecidableEq α] {f : α → D} (hf : ∀ a b, D.eqb (f a) (f b) = decide (a = b)) : ∀ xs ys : List α, PyData.eqvAll (D.pys (xs.map f)) (D.pys (ys.map f)) = decide (xs = ys)
  | [], [] => by simp [D.pys, PyData.eqvAll]
  | [], _ :: _ => by simp [D.pys, PyData.eqvAll]
  | _ :: _, [] => by simp [D.pys, PyData.eqvAll]
  | x :: xs, y :: ys => by
    have e := hf x y
    rw [D.eqb] at e
    rw [List.map_cons, List.map_cons, D.pys, D.pys, PyData.eqvAll, e, eqbA_map hf xs ys, ← Bool.decide_and]
    exact decide_eq_decide.mpr (by rw [List.cons.injEq])

theorem eqb_tupM {α : Type} [DecidableEq α] {f : α → D} (hf : ∀ a b, D.eqb (f a) (f b) = decide (a = b)) (xs ys : List α) : D.eqb (.tup (xs.map f)) (.tup (ys.map f)) = decide (xs = ys) := by
  rw [D.eqb, D.py, D.py, PyData.eqv]; exact eqbA_map hf xs ys

theorem eqb_lstM {α : Type} [DecidableEq α] {f : α → D} (hf : ∀ a b, D.eqb (f a) (f b) = decide (a = b)) (xs ys : List α) : D.eqb (.lst (xs.map f)) (.lst (ys.map f)) = decide (xs = ys) := by
  rw [D.eqb, D.py, D.py, PyData.eqv]; exact eqbA_map hf xs ys

theorem eqb_int (a b : Int) : D.eqb (.int a) (.int b) = decide (a = b) := by
  simp only [D.eqb, D.py, PyData.eqv]; exact Bool.eq_iff_iff.mpr (by simp)

/-! ### the jar -/

theorem j_ix0 {R : S → Prop} : fIx .jar (.int 0) R = ∀ n : Int, R (.d (.int n)) := propext ⟨fun h n => h.2 n fun q => absurd q (by decide), fun h => ⟨.inl rfl, fun n _ => h n⟩⟩

theorem j_ix2 {R : S → Prop} : fIx .jar (.int 2) R = ∀ n : Int, R (.d (.int n)) := propext ⟨fun h n => h.2 n fun q => absurd q (by decide), fun h => ⟨.inr (.inr rfl), fun n _ => h n⟩⟩

theorem j_ix1 {R : S → Prop} : fIx .jar (.int 1) R = ∀ n : Int, (-(2 ^ 40) < n ∧ n < 2 ^ 40) → R (.d (.int n)) := propext ⟨fun h n b => h.2 n fun _ => b, fun h => ⟨.inr (.inl rfl), fun n b => h n (b rfl)⟩⟩

theorem j_s0 {n : Int} {N : S → Prop} : sIx (.d .jar) (.int 0) (.int n) N = N (.d .jar) := propext ⟨fun h => h.2.2, fun h => ⟨.inl rfl, ⟨n, rfl, fun q => absurd q (by decide)⟩, h⟩⟩

theorem j_s2 {n : Int} {N : S → Prop} : sIx (.d .jar) (.int 2) (.int n) N = N (.d .jar) := propext ⟨fun h => h.2.2, fun h => ⟨.inr (.inr rfl), ⟨n, rfl, fun q => absurd q (by decide)⟩, h⟩⟩

theorem j_s1 {n : Int} {N : S → Prop} : sIx (.d .jar) (.int 1) (.int n) N = ((-(2 ^ 40) < n ∧ n < 2 ^ 40) ∧ N (.d .jar)) := propext ⟨fun ⟨_, ⟨m, e, b⟩, h⟩ => by
  injection e with e
  subst e
  exact ⟨b rfl, h⟩, fun h => ⟨.inr (.inl rfl), ⟨n, rfl, fun _ => h.1⟩, h.2⟩⟩

theorem fmod_pos {a b : Int} (h : 0 < b) : 0 ≤ a.fmod b ∧ a.fmod b < b := ⟨Int.fmod_nonneg_of_pos a h, Int.fmod_lt_of_pos a h⟩

theorem cut_map {α β : Type} {f : α → β} {xs : List α} {lo hi : Option Int} : cutD (xs.map f) lo hi = (cutD xs lo hi).map f := by
  unfold cutD
  rw [List.length_map, List.map_take, List.map_drop]

/-! ### loops over ranges and maps -/

end DL









/-! DL10: comprehensions of two fors; frozen slots; divmod into a jar. -/

namespace DL

open PySem PySem.Spec L2

section

variable {X : Cx} {G : Gx} {T : WX} {pos p : Pos}

/-! ### an own slot is frozen at once -/

end

section

variable {X : Cx} {G : Gx} {T : WX} {pos : Pos} {t t1 : WT}

/-! ### comprehensions of two fors: the cells stay -/

end

end DL









/-! DL11: set of a list of ints, sorted(set(..)). -/

namespace DL

open PySem PySem.Spec L2 PyProof.Rows

section

variable {P : Program} {w : World} {A : Around} {E : Value → Shared → Prop} {s : Shared}

/-- a set's object before anything is in it -/
def newS (w : World) : Obj := { cls := .type "set", dict := none, data := .set #[] 0 (.fresh 0 0 (!w.params.followText "set-order")) }

theorem newS_set {s : Shared} : Shared.TypeIs { s with heap := s.heap.push (newS w) } (.ref s.heap.objs.size) "set" := ⟨newS w, Heap.get?_push_size _ rfl, rfl⟩

/-- what set.__init__ leaves -/
def Filled (w : World) (ns : List Int) (s s2 : Shared) : Prop := ∃ (g : Heap) (tk c : Nat), s2 = { s with heap := g, toks := tk } ∧ SetR w g s.heap.objs.size (fun j => decide (j ∈ ns)) c ∧ c ≤ ns.length ∧ ∀ b o, s.heap.get? b = some o → g.get? b = some o

theorem init_list {l : Addr} {its : Array Value} (ns : List Int) (hh : A.handled = none) (hl : s.heap.IsList l its) (hit : IntsAre its.toList ns) (hb : ns.length + 1 < scanBound) :
    codeAny (model P w) A (.call (.builtin "set.__init__") ⟨[.ref s.heap.objs.size, .ref l], []⟩) (wants (fun r s2 => r = .none ∧ Filled w ns s s2) E) { s with heap := s.heap.push (newS w) } := by
  refine codeAny_call_builtin F.called_set.init.plain F.entry_set_init (check_set_init_1 newS_set ?_)
  have len : its.size = ns.length := by have q := IntsAre.length hit; rwa [Array.length_toList] at q
  obtain ⟨⟨oc, od, odt, os⟩, hol, hcl, nl, hdl⟩ := hl
  simp only at hcl hdl
  subst hcl hdl
  have old : (s.heap.push (newS w)).get? l = some { cls := .type "list", dict := od, data := .seq its nl, slots := os } := Heap.get?_push_of_some _ hol
  have below : l < s.heap.objs.size := Heap.lt_size hol
  have isl : (s.heap.push (newS w)).IsList l its := ⟨_, old, rfl, nl, rfl⟩
  have a1 := F.sub_list_set
  have a2 := F.sub_list_frozenset
  have a3 : (Value.type "list" == Value.type "dict") = false := by decide
  unfold Builtin.«set.__init__» noKeywords Builtin.Frozenset.updateFrom
  generalize hPI : pyIter = PI
  wp_walk
  subst hPI
  refine wpAny_pyIter_list isl (wpAny_bind (wpAny_runValue ?_))
  have calm : A.in1.in1.handled = none := by simp [hh]
  have ne1 : l ≠ (s.heap.push (newS w)).objs.size := by rw [Heap.size_push]; exact Nat.ne_of_lt (Nat.lt_succ_of_lt below)
  have ne2 : s.heap.objs.size ∉ [(s.heap.push (newS w)).objs.size, l] := by
    rw [Heap.size_push]
    simp only [List.mem_cons, List.not_mem_nil, or_false, not_or]
    exact ⟨Nat.ne_of_lt (Nat.lt_succ_self _), Nat.ne_of_gt below⟩
  have vals : ∀ (i : Nat) (v : Value), its[i]? = some v → ∃ k t, ns[i]? = some k ∧ v = .int k t := fun i v hv => by
    have hi : i < ns.length := by rw [← len]; exact (Array.getElem?_eq_some_iff.mp hv).1
    obtain ⟨t, e⟩ := PyProof.Rows.IntsAre.int_at hit i v (by rw [Array.getElem?_toList]; exact hv)
    exact ⟨ns[i], t, List.getElem?_eq_getElem hi, by rw [e, List.getD_eq_getElem?_getD, List.getElem?_eq_getElem hi] <;> rfl⟩
  refine set_update_ints ((Walks.list calm _ l ne1 its).toS) s.heap.objs.size ne2 ns len hb vals (its.size - 0) 0 _ (by omega) (Nat.zero_le _) ?y ?z ?_
  case y => exact ⟨⟨_, Heap.get?_push_size _ rfl, rfl, rfl⟩, isl.push _⟩
  case z => exact ⟨0, Nat.le_refl 0, setR_new_at (Heap.get?_push_of_some _ (Heap.get?_push_size s.heap (o := newS w) rfl))⟩
  intro s2 c mv hc full
  obtain ⟨g, gs, dr, tk, o2⟩ := s2
  obtain rfl : gs = s.gens := mv.gens
  obtain rfl : dr = s.drawn := mv.drawn
  obtain rfl : o2 = s.os := mv.os
  refine wpAny_pure (wpAny_pure ⟨rfl, g, tk, c, rfl, full, by rw [← len]; exact hc, fun b o e => ?_⟩)
  have lt : b < s.heap.objs.size := Heap.lt_size e
  refine mv.heap b o ?_ (Heap.get?_push_of_some _ (Heap.get?_push_of_some _ e))
  rw [Heap.size_push]
  simp only [List.mem_cons, List.not_mem_nil, or_false, not_or]
  exact ⟨Nat.ne_of_lt lt, Nat.ne_of_lt (Nat.lt_succ_of_lt lt)⟩

theorem call_set_listI {l : Addr} {its : Array Value} (ns : List Int) {Q : Value → Shared → Prop} (hh : A.handled = none) (hl : s.heap.IsList l its) (hit : IntsAre its.toList ns) (hb : ns.length + 1 < scanBound)
    (h : ∀ s2, Filled w ns s s2 → Q (.ref s.heap.objs.size) s2) : wpAny (model P w) A (call (.type "set") [.ref l]) Q E s := by
  obtain ⟨c, tl, b1⟩ := F.called_set.mro
  have b2 := F.called_set.made
  have b3 := F.called_set.sub
  refine wpAny_call (codeAny_of_tree (wpAny_pure ⟨Code.quiet_builtin _ (by decide +kernel), codeAny_builtin F.entry_type_call ?_⟩))
  rw [Around.under_plain (weight_type_call_type "set" [.ref l] []) rfl]
  have b4 := F.called_set.notType
  have b5 := F.called_set.canCreate
  have b6 := F.typeCall_set_1 (.ref l)
  repeat (any_goals (first | assumption | wp_step))
  refine codeAny_mono (code_set_led1 (.ref l) (E := E) (Q₁ := fun o s1 => o = .ref s.heap.objs.size ∧ s1 = { s with heap := s.heap.push (newS w) }) ⟨rfl, rfl⟩) fun r s1 hr => ?_
  cases r with
  | error e => exact hr
  | ok fl => cases fl with
    | ret o =>
      obtain ⟨rfl, rfl⟩ := hr
      have b7 := newS_set (w := w) (s := s)
      have b8 := F.called_set.init.lookup
      have b9 := F.called_set.init.bind (.ref s.heap.objs.size)
      repeat (any_goals (first | assumption | wp_step))
      refine codeAny_mono (init_list (E := E) ns (by simp [hh]) hl hit hb) fun r2 s3 hr2 => ?_
      cases r2 with
      | error e => exact hr2
      | ok fl2 => cases fl2 with
        | ret o2 =>
          obtain ⟨rfl, hf⟩ := hr2
          have last := h _ hf
          obtain ⟨g, tk, c, rfl, hrest⟩ := hf
          repeat (any_goals (first | assumption | wp_step))
        | _ => exact hr2.elim
    | _ => exact hr.elim

end

/-- sorted of a set of ints, of any size that a set may have -/
def rSortedSetL (w : World) : List V → Hp → VK → Prop := fun vs H Q => ∃ (a : Addr) (S : Int → Bool) (n : Nat), vs = [V.ref a] ∧ H a = some (SetO w a S n) ∧ n < 4096 ∧
  ∀ (ns : List Int) (p : Addr), ns.Pairwise (· < ·) → (∀ k : Int, k ∈ ns ↔ S k = true) → ns.length = n → H p = none → Q (.ref p) (upd H p (.lst (ns.map V.int)))

theorem cr_sortedSetL {X : Cx} (hc : X.calm = true) : CallR X (.builtin "sorted") (rSortedSetL X.w) := by
  intro pins s σ H xs us Q I r ⟨a, S, n, ex, ha, hn4, q⟩
  subst ex
  rw [Vals.ref1 r]
  obtain ⟨ob, es, ep, t, ho, hex, hd, hg, nd, hm, hb, hf, hn, hr, hl⟩ := setO_get I ha
  refine Calls.call_function_entry PyProof.Rows.kind_sorted PyProof.Rows.plain_sorted PyProof.Rows.entry_sorted (PyProof.Rows.args_sorted1 _) ?_
  unfold Builtin.«sorted»
  refine wpAny_bind (m := checkCount "sorted" 1 1 _) (wpAny_pure ?_)
  refine wpAny_bind (collect_set (A := X.A.in1) (I.ok.hd hc) ⟨ob, ho, hex.1, hd⟩ hf hb hr hl fun s1 vs old hz hgn hos pm => ?_)
  have len : vs.length = n := by rw [pm.length_eq, List.length_map, Array.length_toList]; exact hn
  have small : vs.length ≤ sizeLine := by rw [len, sizeLine_eq]; omega
  have hI : IntsAre vs (vs.map Builtin.Re.reRawOf) := ints_of vs fun v hv => by
    obtain ⟨e, he, z⟩ := List.mem_map.mp (pm.mem_iff.mp hv)
    obtain ⟨k, tk, h1, _⟩ := hg e he
    exact ⟨k, tk, by rw [← z]; exact h1⟩
  have keys : (vs.map Builtin.Re.reRawOf).Perm (es.toList.map keyOf) := by
    have z := pm.map Builtin.Re.reRawOf
    rwa [List.map_map] at z
  refine wpAny_bind (wpAny_newList ?_ small)
  have hoL : (s1.heap.push (seqObj "list" vs.toArray 0)).get? s1.heap.objs.size = some (seqObj "list" vs.toArray 0) := Heap.get?_push_size _ rfl
  refine wpAny_bind (wpAny_holding (wpAny_call_entry PyProof.Rows.slot_list_sort ⟨_, hoL, rfl⟩ PyProof.Rows.entry_list_sort
    (SrtO.list_sort_ord (s := { s1 with heap := s1.heap.push (seqObj "list" vs.toArray 0) }) SrtO.swo_int hoL small (fun h2 => SrtO.ints_sortable hI h2) fun out g1 g2 => ⟨_, rfl, ?_⟩) (PyProof.Rows.args_list_sort _)))
  obtain ⟨k1, k2, k3⟩ := SrtO.ints_out hI g1 g2
  obtain ⟨e', he'⟩ := PyProof.Rows.sortedHeap_at (vs := vs) (out := out.toArray) hoL
  have perm := k2.trans keys
  have lo : ((out.map SrtO.iv).map V.int).length ≤ sizeLine := by rw [List.length_map, k2.length_eq, List.length_map]; exact small
  have hp : H s1.heap.objs.size = none := I.hok.fresh hz
  have keep : ∀ b u, s.heap.get? b = some u → (PyProof.Rows.sortedHeap (s1.heap.push (seqObj "list" vs.toArray 0)) s1.heap.objs.size vs out.toArray).get? b = some u := fun b u e => by
    have lt := Heap.lt_size (old b u e)
    rw [PyProof.Rows.sortedHeap_old (Nat.ne_of_lt lt) (by rw [size_push']; exact Nat.lt_succ_of_lt lt)]
    exact Heap.get?_push_of_some _ (old b u e)
  refine wpAny_pure ⟨_, rfl, .ref s1.heap.objs.size, upd H s1.heap.objs.size (.lst ((out.map SrtO.iv).map V.int)), ?_, rfl,
    q _ _ (lt_of_le_nodup _ k3 (perm.nodup_iff.mpr nd)) (fun k => by rw [perm.mem_iff, ← hm k]) (by rw [perm.length_eq, List.length_map, Array.length_toList]; exact hn) hp⟩
  obtain ⟨hs1, gs1, dr1, tk1, os1⟩ := s1
  obtain rfl : gs1 = s.gens := hgn
  obtain rfl : os1 = s.os := hos
  have J : Inv X pins σ (upd H hs1.objs.size (.lst ((out.map SrtO.iv).map V.int))) { s with heap := PyProof.Rows.sortedHeap (hs1.push (seqObj "list" vs.toArray 0)) hs1.objs.size vs out.toArray, gens := s.gens, drawn := dr1, toks := tk1 } :=
    I.call (ch := []) (Un.laid keep hz hp) (I.hok.laid keep hz ⟨lo, out, e', vals_of_ints k1, he'⟩) I.bare (fun _ z => nomatch z)
  exact J

/-! ### sorted(set(xs)) -/

def rSetI (K : PySem.W.Frag) (w : World) : List V → Hp → VK → Prop := fun xs H Q => ∃ (a : Addr) (ns : List Int), xs = [.ref a] ∧ SqL K H a (ns.map V.int) ∧ ns.length + 1 < scanBound ∧
  ∀ (p : Addr) (c : Nat), H p = none → c ≤ ns.length → Q (.ref p) (upd H p (SetO w p (fun j => decide (j ∈ ns)) c))

theorem cr_setI {X : Cx} (hc : X.calm = true) : CallR X (.type "set") (rSetI X.K X.w) := by
  intro pins s σ H xs us Q I r ⟨a, ns, e, hs, hb, q⟩
  subst e
  rw [Vals.ref1 r]
  obtain ⟨its, rv, pl, hz⟩ := I.list hs
  refine call_set_listI ns (I.ok.hd hc) pl.isList (ints_of_vals rv) hb fun s2 ⟨g, tk, c, e2, R, hcn, old⟩ => ?_
  subst e2
  have hn : H s.heap.objs.size = none := I.hok.fresh (Nat.le_refl _)
  exact ⟨.ref _, _, I.laid old (Nat.le_refl _) (setO_new R), rfl, q _ c hn hcn⟩

def fSortedSet := fInts fun ns R => ns.length < 4095 ∧ ∀ ns' : List Int, ns'.Pairwise (· < ·) → (∀ k, k ∈ ns' ↔ k ∈ ns) → R (.own (ns'.map .int))

section

variable {X : Cx} {G : Gx} {T : WX} {e : Expr} {pos p : Pos}

theorem de_sortedSet {x y : Str} {p2 pos2 : Pos} {u : WA} (hc : X.calm = true) (hg : Gl X x) (hm : X.mg x = none) (hv : bootBuiltins x = some (.builtin "sorted")) (hg2 : Gl X y) (hm2 : X.mg y = none) (hv2 : bootBuiltins y = some (.type "set")) (ha : DA X G T [e] u)
    (hn : x ≠ "__name__" := by decide) (hdb : (x == ("__debug__" : Str)) = false := by decide) (hn2 : y ≠ "__name__" := by decide) (hdb2 : (y == ("__debug__" : Str)) = false := by decide)
    (he : starEach [.Call (.Name y p2) [e] [] pos2] X.env = (false, eval (.Call (.Name y p2) [e] [] pos2) X.env) :: starEach [] X.env := by rfl) (hpl : (backTo pos (starEach [] X.env)).any (·.1) = false := by rfl)
    (he2 : starEach [e] X.env = (false, eval e X.env) :: starEach [] X.env := by rfl) (hpl2 : (backTo pos2 (starEach [] X.env)).any (·.1) = false := by rfl) :
    DE X G T (.Call (.Name x p) [.Call (.Name y p2) [e] [] pos2] [] pos) (wCallB fSortedSet u) :=
  pe_weak (pe_callB (cr_sortedSetL hc) hg hm hv (pa_cons (pe_callTy (cr_setI hc) hg2 hm2 hv2 ha hn2 hdb2 he2 hpl2) pa_nil he) hn hdb he hpl) fun σ H Q ⟨W, ρ, R, Z, ok, h, hR, hZ⟩ => by
    refine ⟨W, ρ, _, Z, ok, h, fun ds ρ1 W1 xs H1 ⟨ns, e, f1, f2⟩ g d => ?_, hZ⟩
    obtain ⟨a, rfl, s⟩ := d.ints1 e
    refine ⟨a, ns, rfl, s, by have : scanBound = scanBound := rfl; unfold scanBound; omega, fun q c hq hcn => ?_⟩
    have g1 := Go.new (o := SetO X.w q (fun j => decide (j ∈ ns)) c) g.ok hq
    refine ⟨q, _, c, rfl, upd_same, by omega, fun ns' q' s1 s2 s3 hq' => ?_⟩
    refine hR _ _ _ _ _ (f2 ns' s1 fun k => by rw [s2]; simp) ((g.trans g1).trans (Go.new g1.ok hq')) (res_own g1.ok hq' ?_ (DnA.of_int ns'))
    exact g.stp.up q' (g1.stp.up q' hq')

end

end DL









/-! DL12: divmod, a jar beside a name, own dicts. -/

namespace DL

open PySem PySem.Spec L2

/-! ### divmod -/

def fDivmod (ds : List D) (R : S → Prop) : Prop := match ds with
  | [.int i, .int j] => CDivW i j ∧ R (.d (.tup [.int (i / j), .int (i % j)]))
  | _ => False

section

variable {X : Cx} {G : Gx} {T : WX} {e : Expr} {w : WE} {pos p tpos : Pos}

/-! ### x[k], y = e: x a jar -/

end

end DL









/-! DL13: own dicts. -/

namespace DL

open PySem PySem.Spec L2

def valD (kvs : List (Key × D)) (k : Key) : Option D := (kvs.find? fun kv => decide (kv.1 = k)).map (·.2)

def putD (kvs : List (Key × D)) (k : Key) (v : D) : List (Key × D) :=
  if (kvs.any fun kv => decide (kv.1 = k)) = true then kvs.map (fun kv => if kv.1 = k then (kv.1, v) else kv) else kvs ++ [(k, v)]

def D.key : D → Option Key
  | .int i => some (.inl i)
  | .str s => some (.inr s)
  | _ => none

def keyD : Key → D
  | .inl i => .int i
  | .inr s => .str s

section

variable {K : PySem.W.Frag} {W : Wd} {H : Hp}

theorem DnK.val {k : Key} : ∀ {ds : List (Key × D)} {vs : List (Key × V)}, DnK K W H ds vs → (valD ds k = none ∧ valV vs k = none) ∨ ∃ d v, valD ds k = some d ∧ valV vs k = some v ∧ Dn K W H d v
  | _, _, .nil => .inl ⟨rfl, rfl⟩
  | (k', d) :: ds, (_, v) :: vs, .cons h1 h2 => by
    by_cases e : k' = k
    · exact .inr ⟨d, v, by simp [valD, e], by simp [valV, e], h1⟩
    · rcases DnK.val (k := k) h2 with ⟨a, b⟩ | ⟨d', v', a, b, c⟩
      · exact .inl ⟨by simpa [valD, e] using a, by simpa [valV, e] using b⟩
      · exact .inr ⟨d', v', by simpa [valD, e] using a, by simpa [valV, e] using b, c⟩

theorem DnK.any {k : Key} : ∀ {ds : List (Key × D)} {vs : List (Key × V)}, DnK K W H ds vs → (ds.any fun kv => decide (kv.1 = k)) = vs.any fun kv => decide (kv.1 = k)
  | _, _, .nil => rfl
  | _, _, .cons h1 h2 => by simp only [List.any_cons, DnK.any h2]

theorem DnK.repl {k : Key} {d : D} {v : V} (h : Dn K W H d v) : ∀ {ds : List (Key × D)} {vs : List (Key × V)}, DnK K W H ds vs → DnK K W H (ds.map fun kv => if kv.1 = k then (kv.1, d) else kv) (vs.map fun kv => if kv.1 = k then (kv.1, v) else kv)
  | _, _, .nil => .nil
  | (k', x) :: ds, (_, y) :: vs, .cons h1 h2 => by
    by_cases e : k' = k
    · simp only [List.map_cons, e, if_true]; exact .cons h (DnK.repl h h2)
    · simp only [List.map_cons, e, if_false]; exact .cons h1 (DnK.repl h h2)

theorem DnK.snoc {k : Key} {d : D} {v : V} (h : Dn K W H d v) : ∀ {ds : List (Key × D)} {vs : List (Key × V)}, DnK K W H ds vs → DnK K W H (ds ++ [(k, d)]) (vs ++ [(k, v)])
  | _, _, .nil => .cons h .nil
  | _, _, .cons h1 h2 => .cons h1 (DnK.snoc h h2)

theorem DnK.put {k : Key} {d : D} {v : V} (h : Dn K W H d v) {ds : List (Key × D)} {vs : List (Key × V)} (r : DnK K W H ds vs) : DnK K W H (putD ds k d) (putK vs k v) := by
  unfold putD putK
  rw [r.any]
  split
  · exact r.repl h
  · exact r.snoc h

theorem DnK.length : ∀ {ds : List (Key × D)} {vs : List (Key × V)}, DnK K W H ds vs → ds.length = vs.length
  | _, _, .nil => rfl
  | _, _, .cons _ h => congrArg (· + 1) h.length

theorem DnK.keys : ∀ {ds : List (Key × D)} {vs : List (Key × V)}, DnK K W H ds vs → ds.map (·.1) = vs.map (·.1)
  | _, _, .nil => rfl
  | _, _, .cons _ h => by simp only [List.map_cons, h.keys]

end

section

variable {X : Cx} {G : Gx} {T : WX} {a b c e : Expr} {w wk wd : WE} {pos p apos cpos : Pos}

def dGet (d k : D) (N : D → Prop) : Prop := match d, k.key with
  | .dic kvs, some κ => ∃ v, valD kvs κ = some v ∧ N v
  | _, _ => False

def dGetE (d k z : D) (N : D → Prop) : Prop := match d, k.key with
  | .dic kvs, some κ => N ((valD kvs κ).getD z)
  | _, _ => False

/-! ### displays -/

def wDic0 : WE := fun _ ρ R => R (.odic []) ρ

theorem de_dic0 : DE X G T (.Dict [] [] pos) wDic0 :=
  pe_weak pe_dnewK fun σ H Q ⟨W, ρ, R, Z, ok, h, hR, hZ⟩ q hq => hR _ ρ W _ _ h (.new ok hq) ⟨⟨q, [], rfl, upd_same, .nil⟩, fun _ q' e => by
    cases e
    refine ⟨fun z => ?_, fun z => ?_, fun z => ?_, hq⟩
    · obtain ⟨o, e⟩ := ok.al.f q z; rw [hq] at e; cases e
    · obtain ⟨u, e⟩ := (ok.al.j q z).some; rw [hq] at e; cases e
    · obtain ⟨_, _, o, e⟩ := ok.al.c q z; rw [hq] at e; cases e⟩

/-! ### an own thing goes from slot to slot, out of the def -/

theorem Ok.drop {K : PySem.W.Frag} {σ : L2.St} {ρ : Rho} {W : Wd} {H : Hp} (ok : Ok K G W ρ σ H) (j : Nat) : Ok K G W (ρ.set j none) σ H := by
  have sub : ∀ (i : Nat) (d : S), (ρ.set j none).sl[i]? = some (some d) → ρ.sl[i]? = some (some d) := fun i d h => by
    have h : (ρ.sl.set j none)[i]? = some (some d) := h
    rcases set_get h with ⟨_, z⟩ | ⟨_, z⟩
    · cases z
    · exact z
  have ow : ∀ a, Ow (ρ.set j none) σ a → Ow ρ σ a := fun a ⟨i, d, h1, h2, h3⟩ => ⟨i, d, sub i d h1, h2, h3⟩
  exact ⟨ok.len.trans List.length_set.symm, fun i d h => ok.val i d (sub i d h), fun a h => ok.frs a (ow a h), fun i j d e a h1 h2 o1 o2 s1 s2 => ok.inj i j d e a (sub i d h1) (sub j e h2) o1 o2 s1 s2, ok.al, ok.en, ok.mm⟩

/-! ### for k in x, x a slot with a dict of its own: it is not changed any more -/

end

end DL







/-! DL14: how the readings of DL10 to DL13 are shown. -/

namespace DL

open PySem PySem.Spec L2

variable {E : DEnds} {ρ : Rho} {Z : ZK} {R : S → Rho → Prop} {u v : WS} {w wa wb wc wk wd : WE} {t t1 : WT} {i j : Nat}

theorem key_int {k : Int} : (D.int k).key = some (.inl k) := rfl

theorem key_str {k : Str} : (D.str k).key = some (.inr k) := rfl

/-! ### tables -/

end DL










/-! DL15: own classes: attributes read and stored, properties, methods, classmethods, new instances. -/

namespace DL

open PySem PySem.Spec L2

/-! ### attributes -/

def FldX (K : PySem.W.Frag) (mg : Str → Option Value) (C f : Str) : Prop := ∃ Ca, mg C = some (.ref Ca) ∧ Cls K Ca ∧ NoAttr K Ca f

/-- the attributes of an instance -/
def D.fsOf (C : Str) (x : D) (μ : Mem) : Option (List (Str × D)) := match x with
  | .ins C' fs => if C' = C then some fs else none
  | .cell i => match μ[i]? with
    | some c => if c.cls = C then some c.fs else none
    | none => none
  | _ => none

theorem DnF.lookup {K : PySem.W.Frag} {W : Wd} {H : Hp} {f : Str} : ∀ {ds : List (Str × D)} {vs : List (Str × V)} {d : D}, DnF K W H ds vs → ds.lookup f = some d → ∃ v, vs.lookup f = some v ∧ Dn K W H d v
  | _, _, d, .cons (k := k) h1 h2, e => by
    rw [List.lookup_cons] at e
    split at e
    · rename_i q
      cases e
      exact ⟨_, by rw [List.lookup_cons, q], h1⟩
    · rename_i q
      obtain ⟨v, e1, e2⟩ := h2.lookup e
      exact ⟨v, by rw [List.lookup_cons, q]; exact e1, e2⟩

theorem DnF.lookup_none {K : PySem.W.Frag} {W : Wd} {H : Hp} {f : Str} : ∀ {ds : List (Str × D)} {vs : List (Str × V)}, DnF K W H ds vs → ds.lookup f = none → vs.lookup f = none
  | _, _, .nil, _ => rfl
  | _, _, .cons (k := k) h1 h2, e => by
    rw [List.lookup_cons] at e ⊢
    split at e
    · cases e
    · exact h2.lookup_none e

def putA (f : Str) (v : D) : List (Str × D) → List (Str × D)
  | [] => [(f, v)]
  | (g, x) :: r => if g = f then (g, v) :: r else (g, x) :: putA f v r

theorem DnF.put {K : PySem.W.Frag} {W : Wd} {H : Hp} {f : Str} {d : D} {v : V} (h : Dn K W H d v) : ∀ {ds : List (Str × D)} {vs : List (Str × V)}, DnF K W H ds vs → DnF K W H (putA f d ds) (putF f v vs)
  | _, _, .nil => .cons h .nil
  | _, _, .cons (k := k) h1 h2 => by
    show DnF K W H (if k = f then (k, d) :: _ else (k, _) :: putA f d _) (if k = f then (k, v) :: _ else (k, _) :: putF f v _)
    split
    · exact .cons h h2
    · exact .cons h1 (h2.put h)

theorem DnF.length {K : PySem.W.Frag} {W : Wd} {H : Hp} : ∀ {ds : List (Str × D)} {vs : List (Str × V)}, DnF K W H ds vs → ds.length = vs.length
  | _, _, .nil => rfl
  | _, _, .cons _ h => congrArg (· + 1) h.length

section

variable {K : PySem.W.Frag} {G : Gx} {σ : L2.St} {ρ : Rho} {W : Wd} {H : Hp} {μ : Mem}

/-- an instance, where it lies -/
theorem fsOf_at (ok : Ok K G W ρ σ H) {C : Str} {x : D} {v : V} {fs : List (Str × D)} {Cz : Addr} (hz : W.g C = some (.ref Cz)) (d : Dn K W H x v) (e : x.fsOf C ρ.mm = some fs) : ∃ a Ca dx vs, v = .ref a ∧ W.g C = some (.ref Ca) ∧ H a = some (.ins Ca dx vs) ∧ DnF K W H fs vs := by
  unfold D.fsOf at e
  split at e
  · split at e
    · rename_i q; cases e; subst q
      cases d with
      | ins h1 h2 h3 h4 => exact ⟨_, _, _, _, rfl, h2, h3, h4⟩
    · cases e
  · split at e
    · rename_i c hc
      split at e
      · rename_i q; cases e; subst q
        cases d with
        | cell h =>
          obtain ⟨Ca, dx, vs, h1, h2, h3⟩ := (ok.mm.at_ _ c _ hc h).ins hz
          exact ⟨_, _, _, _, rfl, h1, h2, h3⟩
      · cases e
    · cases e
  · cases e

end

section

variable {X : Cx} {G : Gx} {T : WX} {a b c e o value : Expr} {w wa wb : WE} {pos pos' p apos cpos : Pos} {i : Nat} {f C : Str}

def fldGet (C f : Str) (x : D) (μ : Mem) (R : D → Prop) : Prop := ∃ fs v, x.fsOf C μ = some fs ∧ fs.lookup f = some v ∧ R v

/-- e.f, an attribute of an instance of C -/
def wFld (C f : Str) (wa : WE) : WE := fun Z ρ R => wa Z ρ fun x ρ1 => fldGet C f x.frz ρ1.mm fun v => R (.d v) ρ1

theorem de_fld (C : Str) (hG : G.W.g = X.mg) (F : FldX X.K X.mg C f) (ha : DE X G T a wa) (hb : attributeBase a f X.env (eval a X.env) = eval a X.env := by rfl) : DE X G T (.Attribute a f pos) (wFld C f wa) :=
  pe_weak (pe_fld ha hb) fun σ H Q ⟨W, ρ, R, Z, ok, h, hR, hZ⟩ => by
    refine lE_then (R := fun x ρ1 => fldGet C f x ρ1.mm fun v => R (.d v) ρ1) ok h hZ fun d ρ1 W1 x H1 h1 g1 d1 => ?_
    obtain ⟨fs, v, e1, e2, e3⟩ := h1
    obtain ⟨Cb, hm, cl, na⟩ := F
    obtain ⟨a, Ca, dx, vs, rfl, hC, hH, hfs⟩ := fsOf_at g1.ok (by rw [g1.ok.en.le.g, hG, hm]) d1 e1
    rw [g1.ok.en.le.g, hG, hm] at hC
    cases hC
    obtain ⟨u, l1, l2⟩ := hfs.lookup e2
    exact ⟨a, Cb, dx, vs, u, rfl, hH, cl, na, l1, hR _ ρ1 W1 u H1 e3 g1 (.of l2)⟩

/-- self.f in an __init__: the slot's own instance -/
def wFldV (C f : Str) (i : Nat) : WE := fun Z ρ R => match ρ.sl[i]? with
  | some (some (.oins _ C' fs)) => C' = C ∧ ∃ v, fs.lookup f = some v ∧ R (.d v) ρ
  | _ => False

/-! ### stores -/

/-- self.f = e in an __init__ -/
def wStF (C f : Str) (i : Nat) (wa : WE) : WS := fun E ρ => (∃ s, ρ.sl[i]? = some (some s)) ∧ wa E.ex ρ fun x ρ1 => match ρ1.sl[i]? with
  | some (some (.oins q C' fs)) => C' = C ∧ fs.length < 1000 ∧ E.nx (ρ1.set i (some (.oins q C (putA f x.frz fs))))
  | _ => False

theorem ds_stF (C : Str) (i : Nat) {x : Str} (hG : G.W.g = X.mg) (F : FldX X.K X.mg C f) (hv' : DE X G T value wa) (hs : swapsWith value (some (.Attribute (.Name x p) f pos')) pos.line X.env = pure false := by rfl) (hN : X.N[i]? = some x := by rfl) (hv : Vis X.env.scope x := by first | exact Or.inl rfl | exact Or.inr (Or.inl rfl) | exact Or.inr (Or.inr rfl)) (hd : (x == ("__debug__" : Str)) = false := by decide)
    (hcd : (x == ("__classdict__" : Str)) = false := by decide) : DS X G T (.Assign [.Attribute (.Name x p) f pos'] value pos) (wStF C f i wa) :=
  ps_weak (ps_fld (pv i hN hv hd hcd) hv' hs) fun D σ H ⟨W, ρ, E, ok, ⟨⟨s, es⟩, h⟩, hN', hR, hB, hC', hX⟩ => by
    refine lE_then (R := fun x ρ1 => match ρ1.sl[i]? with | some (some (.oins q C' fs)) => C' = C ∧ fs.length < 1000 ∧ E.nx (ρ1.set i (some (.oins q C (putA f x fs)))) | _ => False) ok h (hX.z σ ρ) fun d ρ1 W1 y H1 h1 g1 d1 => ?_
    split at h1
    · rename_i q C' fs e
      obtain ⟨rfl, hl, hn⟩ := h1
      obtain ⟨x, ex, Ca, dx, vs, rfl, hC, hH, hfs⟩ := g1.ok.val i _ e
      obtain ⟨Cb, hm, cl, na⟩ := F
      have hC0 := hC
      rw [g1.ok.en.le.g, hG, hm] at hC
      cases hC
      refine ⟨_, ex, q, Ca, dx, vs, rfl, hH, cl, na, by rw [← hfs.length]; exact hl, ?_⟩
      have hO : Ow ρ1 σ q := ⟨i, _, e, rfl, ex⟩
      have l : Le W1 H1 W1 (upd H1 q (.ins Ca dx (putF f y vs))) := .same fun a z => upd_ne fun w => (g1.ok.frs q hO).1 (by rw [← w]; exact z)
      have g2 := g1.ok.wslot (s' := .oins q C' (putA f d fs)) (o := .ins Ca dx (putF f y vs)) e ex rfl rfl ⟨Ca, dx, _, rfl, hC0, upd_same, (hfs.put d1).le l⟩
      exact hN' _ W1 σ _ hn g2.ok (g1.stp.le.trans l)
    · exact h1.elim

end

end DL







/-! DL16: calls of properties, methods, classes. -/

namespace DL

open PySem PySem.Spec L2

def DfP (P : Program) (w : World) (K : PySem.W.Frag) (mg : Str → Option Value) (base : Heap) (k : Nat) (C f : Str) (ps : List Str) (wf : WF) : Prop :=
  ∃ Ca p g fd, mg C = some (.ref Ca) ∧ Cls K Ca ∧ PropOf K Ca f p g ∧ Binds K fd ps [] ∧ FnG P w K mg base k g fd ps wf

/-- a method: its def st -/
def DfM (P : Program) (w : World) (K : PySem.W.Frag) (mg : Str → Option Value) (base : Heap) (k : Nat) (C m qual : Str) (st : Stmt) (ps : List Str) (wf : WF) : Prop :=
  ∃ Ca f fd, mg C = some (.ref Ca) ∧ Cls K Ca ∧ Meth K Ca m f ∧ Fun K m qual st f fd ∧ Binds K fd ps [] ∧ FnG P w K mg base k f fd ps wf

section

variable {X : Cx} {G : Gx} {T : WX} {a b c e o value : Expr} {w wa wb wo : WE} {pos pos' p apos cpos : Pos} {i k j : Nat} {f C m : Str} {ps : List Str} {wf : WF} {es : List Expr} {kws : List Keyword} {u uk : WA}

def wProp (C : Str) (wf : WF) (wa : WE) : WE := fun Z ρ R => wa Z ρ fun x ρ1 => (∃ fs, x.frz.fsOf C ρ1.mm = some fs) ∧ wf (fun _ _ => False) [x.frz] ρ1.mm fun s μ => R s ⟨ρ1.sl, μ⟩

theorem de_prop (Cx : CxG X T k) (hG : G.W.g = X.mg) (F : DfP X.prog X.w X.K X.mg X.base j C f ps wf) (hps : ps.length = 1) (hj : j + 1 ≤ k) (ha : DE X G T a wa) (hb : attributeBase a f X.env (eval a X.env) = eval a X.env := by rfl) : DE X G T (.Attribute a f pos) (wProp C wf wa) := by
  obtain ⟨Ca, p, g, fd, hm, c, hp, hbi, F⟩ := F
  refine ⟨fun pins s σ H Q I ⟨W, ρ, R, Z, ok, h, hR, hZ⟩ => ?_⟩
  have arg : lE X.K G T wa σ H fun x H1 => ∃ d W1 ρ1, Go X.K G σ ρ W H ρ1 W1 H1 ∧ Dn X.K W1 H1 d x ∧ (∃ fs, d.fsOf C ρ1.mm = some fs) ∧ wf (fun _ _ => False) [d] ρ1.mm fun s μ => R s ⟨ρ1.sl, μ⟩ := by
    refine lE_then (R := fun x ρ1 => (∃ fs, x.fsOf C ρ1.mm = some fs) ∧ wf (fun _ _ => False) [x] ρ1.mm fun s μ => R s ⟨ρ1.sl, μ⟩) ok h hZ fun d ρ1 W1 x H1 h1 g1 d1 => ?_
    exact ⟨d, W1, ρ1, g1, d1, h1.1, h1.2⟩
  refine attr_of hb (thn (ha.run pins s σ H _ I arg) fun uv s1 ⟨x, H1, I1, rx, d, W1, ρ1, g1, d1, ⟨fs, e1⟩, hw⟩ => ?_)
  obtain ⟨a, Cb, dx, vs, rfl, hC, hH, hfs⟩ := fsOf_at g1.ok (by rw [g1.ok.en.le.g, hG, hm]) d1 e1
  rw [g1.ok.en.le.g, hG, hm] at hC
  cases hC
  obtain rfl : uv = Value.ref a := rx
  obtain ⟨mA, O, _, _, _, _⟩ := ins_get I1.hok hH
  obtain ⟨od, J, _⟩ := O.look
  obtain ⟨rest, hrec⟩ := hp.rec_
  have I2 := I1.tok (s1.toks + 1)
  have hc : (PySem.W.clsIn X.K Ca).isSome = true := by
    obtain ⟨cd, hc, _⟩ := PySem.W.any_some c.hd
    rw [hc]
    rfl
  refine PySem.W.get_bind I1.kIn J (PySem.W.plainGet_of (c.get f)).1 (PySem.W.findObj_data hc hp.at_ hp.get hp.tak) (PySem.W.plainGet_of (c.get f)).2 (wpAny_call (PySem.W.prop_get (s := { s1 with toks := s1.toks + 1 }) I1.kIn hrec ?_))
  have hr : Room (j + 1) X.A := Cx.rm.mono hj
  refine codeAny_mono (F X.A.in1 X.stack { s1 with toks := s1.toks + 1 } H1 ⟨[.ref a], []⟩ [.ref a] [.ref a] [d] W1 ρ1.mm (fun s μ => R s ⟨ρ1.sl, μ⟩) (fun _ _ => False) Q (fun _ _ _ => False) Cx.gd hr.in1 I2.env0.in1 (by
      have := hbi { s1 with toks := s1.toks + 1 } [.ref a] I2.kIn (by simpa using hps.symm)
      simpa using this) (.cons rfl .nil) (by simpa using hps.symm) g1.ok.al g1.ok.mm (g1.ok.en.le.g.trans hG) (.cons d1 .nil) hw
    (fun d' μ W' x H' hr rt => hR d' ⟨ρ1.sl, μ⟩ W' x H' hr (g1.trans (g1.ok.grow rt.stp rt.al rt.mm)) (rt.res.up g1.stp.up)) (fun _ _ _ _ _ _ q => q.elim)) fun r s' hq => ?_
  match r, hq with
  | .error er, hq => obtain ⟨_, _, _, _, _, _, _, _, _, _, _, _, z⟩ := hq; exact z.elim
  | .ok (.ret u), hq =>
    obtain ⟨v, H', I3, rv, q3⟩ := I2.after hq
    show wpAny _ _ (handedOut u) _ _ _
    rw [PySem.W.handedOut_of (handed_of rv)]
    exact wpAny_pure ⟨v, H', I3, rv, q3⟩

/-! ### o.m(..) -/

def wMeth (C m : Str) (n : Nat) (wf : WF) (wo : WE) (u : WA) : WE := fun Z ρ R => wo Z ρ fun x ρ1 => (∃ fs, x.frz.fsOf C ρ1.mm = some fs ∧ fs.lookup m = none) ∧ u Z ρ1 fun ds ρ2 => ds.length + 1 = n ∧ wf (fun y μ => Z y ⟨ρ2.sl, μ⟩) (x.frz :: ds) ρ2.mm fun s μ => R s ⟨ρ2.sl, μ⟩

theorem meth_then {σ : L2.St} {ρ : Rho} {W : Wd} {H : Hp} {Z : ZK} {R : D → Rho → Prop} {mg : Str → Option Value} {K : PySem.W.Frag} {Ca : Addr} (hm : mg C = some (.ref Ca)) (hG : G.W.g = mg) (ok : Ok K G W ρ σ H) (hZ : lZ K G T Z σ ρ W H)
    (h : wo Z ρ fun x ρ1 => (∃ fs, x.frz.fsOf C ρ1.mm = some fs ∧ fs.lookup m = none) ∧ R x.frz ρ1) :
    lE K G T wo σ H fun x H1 => ∃ d W1 ρ1 a dx vs, x = .ref a ∧ Go K G σ ρ W H ρ1 W1 H1 ∧ Dn K W1 H1 d (.ref a) ∧ H1 a = some (.ins Ca dx vs) ∧ vs.lookup m = none ∧ R d ρ1 := by
  refine lE_then (R := fun x ρ1 => (∃ fs, x.fsOf C ρ1.mm = some fs ∧ fs.lookup m = none) ∧ R x ρ1) ok h hZ fun d ρ1 W1 x H1 h1 g1 d1 => ?_
  obtain ⟨⟨fs, e1, e2⟩, hr⟩ := h1
  obtain ⟨a, Cb, dx, vs, rfl, hC, hH, hfs⟩ := fsOf_at g1.ok (by rw [g1.ok.en.le.g, hG, hm]) d1 e1
  rw [g1.ok.en.le.g, hG, hm] at hC
  cases hC
  exact ⟨d, W1, ρ1, a, dx, vs, rfl, g1, d1, hH, hfs.lookup_none e2, hr⟩

theorem de_meth {qual : Str} {st : Stmt} {pl : Sem Bool} (Cx : CxG X T k) (hG : G.W.g = X.mg) (F : DfM X.prog X.w X.K X.mg X.base j C m qual st ps wf) (hj : j ≤ k) (ho : DE X G T o wo) (ha : DA X G T (e :: es) u)
    (hst : starEach (e :: es) X.env = (false, eval e X.env) :: starEach es X.env := by rfl) (hpl : (backTo pos (starEach es X.env)).any (·.1) = false := by rfl)
    (ht : eval (.Call (.Attribute o m apos) (e :: es) [] pos) X.env = (do
      let ov ← eval o X.env
      standAt apos.atName
      let (f, first) ← holding [ov] (getMethod ov m pl)
      callWith pos f first (backTo pos (starEach (e :: es) X.env)) (backToKw pos (keywordEach [] X.env))) := by rfl) :
    DE X G T (.Call (.Attribute o m apos) (e :: es) [] pos) (wMeth C m ps.length wf wo u) := by
  obtain ⟨Ca, f, fd, hm, c, hM, _, hbi, F⟩ := F
  refine ⟨fun pins s σ H Q I ⟨W, ρ, R, Z, ok, h, hR, hZ⟩ => ?_⟩
  refine PySem.W.methodCall_KW (pl := pl) (thn (ho.run pins s σ H _ I (meth_then (R := fun x ρ1 => u Z ρ1 fun ds ρ2 => ds.length + 1 = ps.length ∧ wf (fun y μ => Z y ⟨ρ2.sl, μ⟩) (x :: ds) ρ2.mm fun s μ => R s ⟨ρ2.sl, μ⟩) hm hG ok hZ h)) fun uv s1 ⟨x, H1, I1, rx, d, W1, ρ1, a, dx, vs, ex, g1, d1, hH, hl, hu⟩ => ?_) ht
  subst ex
  obtain rfl : uv = Value.ref a := rx
  refine getmeth_ok I1 hH c hM hl ?_
  have args : lA X.K G T u σ H1 fun vs H2 => ∃ ds W2 ρ2, Go X.K G σ ρ1 W1 H1 ρ2 W2 H2 ∧ DnA X.K W2 H2 ds vs ∧ ds.length + 1 = ps.length ∧ wf (fun y μ => Z y ⟨ρ2.sl, μ⟩) (d :: ds) ρ2.mm fun s μ => R s ⟨ρ2.sl, μ⟩ :=
    ⟨W1, ρ1, _, Z, g1.ok, hu, fun ds ρ2 W2 xs H2 ⟨h1, h2⟩ g da => ⟨ds, W2, ρ2, g, da, h1, h2⟩, hZ.go g1⟩
  refine PySem.W.callWith_K (first := [.ref a]) (h₀ := X.base) I.ok.mod.kin hM.kp (thn (ha.run pos pins s1 σ H1 _ I1 args) fun us s2 ⟨vs, H2, I2, r, ds, W2, ρ2, g2, da, hl2, hw⟩ => ⟨I2.kIn, ?_⟩) hst hpl
  refine wp_call (us := .ref a :: us) (vs := .ref a :: vs) (ds := d :: ds) Cx hG F hj hbi I2 (.cons rfl r) hl2 g2.ok (.cons (d1.le g2.stp.le) da) hw (fun d' μ W' x H' hr g' rs => hR d' _ W' x H' hr ((g1.trans g2).trans g') (rs.up (g1.trans g2).stp.up)) fun x μ W' H' c dx hz g' ex => hZ x _ W' H' c dx hz ((g1.trans g2).trans g') ex

end

end DL







/-! DL17: new instances of own classes by their __init__. -/

namespace DL

open PySem PySem.Spec L2

/-- the __init__ at f: what wf tells as .ins C fs are the attributes that it has stored -/
def FnI (P : Program) (w : World) (K : PySem.W.Frag) (mg : Str → Option Value) (base : Heap) (k : Nat) (f : Addr) (fd : FuncData) (C : Str) (ps : List Str) (wf : WF) : Prop :=
  ∀ (A : Around) (outer : List PySem.Env) (s : Shared) (H H0 : Hp) (args : Args) (us : List Value) (vs : List V) (ds : List D) (W : Wd) (μ : Mem) (R : S → Mem → Prop) (Z : Exn → Mem → Prop) (Q : VK) (E : XK) (p Ca dx : Addr),
    A.guards = some [] → Room k A → Env0 P w K mg base A outer s H → BindsTo s fd args (ps.zip us) → Vals (.ref p :: vs) us → ds.length + 1 = ps.length → Al W H → Cells K W μ H → W.g = mg → DnA K W H ds vs →
    mg C = some (.ref Ca) → H p = some (.ins Ca dx []) → Step no1 W H0 W H → (¬ W.F p ∧ ¬ W.J p ∧ ¬ p ∈ W.C ∧ H0 p = none) → wf Z ds μ R →
    (∀ fs μ' W' H', R (.d (.ins C fs)) μ' → Ret K W H0 W' H' (.oins p C fs) μ' (.ref p) → Q .non H') → (∀ x μ' W' H' c dx, Z x μ' → RetX K W H0 W' H' x μ' c dx → E c dx H') →
    codeAny (model P w) A (.call (.ref f) args) (CR (L2.CX P w) outer P w H s Q E) s

def slI (N : List Str) (p : Addr) (C : Str) (ds : List D) : Sl := some (.oins p C []) :: (ds.map (fun d => some (.d d)) ++ List.replicate (N.length - (ds.length + 1)) none)

theorem startI_ok {K : PySem.W.Frag} {W : Wd} {H H0 : Hp} {N : List Str} {ds : List D} {vs : List V} {μ : Mem} {p Ca dx : Addr} {C : Str} (al : Al W H) (mm : Cells K W μ H) (h : DnA K W H ds vs) (hC : W.g C = some (.ref Ca)) (hp : H p = some (.ins Ca dx [])) (st : Step no1 W H0 W H) (fr : ¬ W.F p ∧ ¬ W.J p ∧ ¬ p ∈ W.C ∧ H0 p = none) :
    Ok K ⟨W, H0⟩ W ⟨slI N p C ds, μ⟩ (L2.start N (.ref p :: vs)) H := by
  have hl := h.length
  have rest : ∀ (i : Nat) (d : S), (slI N p C ds)[i + 1]? = some (some d) → ∃ e, d = .d e ∧ ds[i]? = some e := fun i d e => by
    unfold slI at e
    rw [List.getElem?_cons_succ] at e
    by_cases q : i < ds.length
    · rw [List.getElem?_append_left (by rw [List.length_map]; exact q), List.getElem?_map] at e
      cases z : ds[i]? with
      | none => rw [z] at e; cases e
      | some y => rw [z] at e; cases e; exact ⟨y, rfl, rfl⟩
    · rw [List.getElem?_append_right (by rw [List.length_map]; omega), List.getElem?_replicate] at e
      split at e <;> cases e
  have at0 : (L2.start N (.ref p :: vs))[0]? = some (some (.ref p)) := rfl
  have own0 : ∀ (i : Nat) (d : S), (slI N p C ds)[i]? = some (some d) → d.isOwn = true → i = 0 := fun i d e o => by
    cases i with
    | zero => rfl
    | succ i => obtain ⟨y, rfl, _⟩ := rest i d e; cases o
  refine ⟨?_, fun i d e => ?_, fun a ⟨i, d, e, o, q⟩ => ?_, fun i j d e a h1 h2 o1 o2 _ _ => ?_, al, st, mm⟩
  · unfold L2.start slI
    dsimp only
    rw [List.length_append, List.length_map, List.length_replicate, List.length_cons, List.length_cons, List.length_append, List.length_map, List.length_replicate, hl]
    omega
  · cases i with
    | zero => cases e; exact ⟨_, at0, Ca, dx, [], rfl, hC, hp, .nil⟩
    | succ i =>
      obtain ⟨y, rfl, hy⟩ := rest i d e
      obtain ⟨x, e1, e2⟩ := h.get hy
      refine ⟨x, ?_, e2⟩
      unfold L2.start
      rw [List.map_cons, List.cons_append, List.getElem?_cons_succ, List.getElem?_append_left (by rw [List.length_map]; exact (List.getElem?_eq_some_iff.mp e1).1), List.getElem?_map, e1]
      rfl
  · have := own0 i d e o
    subst this
    rw [at0] at q
    cases q
    exact fr
  · rw [own0 i d h1 o1, own0 j e h2 o2]

section

variable {P : Program} {w : World} {K : PySem.W.Frag} {mg : Str → Option Value} {base : Heap}

theorem ok_init {x qual : Str} {st : Stmt} {f : Addr} {fd : FuncData} {N ps : List Str} {k : Nat} {C : Str} {wf : WF} {wb : WS} (F : Fun K x qual st f fd) (Sc : FnScope N ps (defScope st))
    (hw : ∀ Z ds μ R (p : Addr), ds.length + 1 = ps.length → wf Z ds μ R → wb ⟨fun ρ => ∃ fs, ρ.sl[0]? = some (some (.oins p C fs)) ∧ R (.d (.ins C fs)) ρ.mm, fun _ _ => False, fun _ => False, fun _ => False, fun x ρ => Z x ρ.mm⟩ ⟨slI N p C ds, μ⟩)
    (hb : ∀ (cdv : Value) (A : Around) (outer : List PySem.Env) (s : Shared) (H H0 : Hp) (E : XK) (W : Wd), W.g = mg → CxG (cxOf (L2.CX P w) P w K mg base N qual (defScope st) f cdv A outer s H E) (fun cls d _ H => E cls d H) k →
      DSs (cxOf (L2.CX P w) P w K mg base N qual (defScope st) f cdv A outer s H E) ⟨W, H0⟩ (fun cls d _ H => E cls d H) (defBody st) wb) :
    FnI P w K mg base (k + 1) f fd C ps wf := by
  intro A outer s H H0 args us vs ds W μ R Z Q E p Ca dx hg hr e0 hbd r hlen al mm hgm da hC hp stp fr hwf hQ hE
  obtain ⟨oc, od, kV, doc, pm, an, cdv, ct, osl, rfl, lk, hcd⟩ := F.ex
  have hl : (V.ref p :: vs).length = ps.length := by rw [List.length_cons, ← da.length]; exact hlen
  have inK : K.In s.heap := e0.mod.kin.keeps fun b o q => (e0.bs b o q).1
  have noLim : s.heap.NoLimit := e0.mod.nolimit.keeps fun b o q => (e0.bs b o q).1
  have kinds : ∀ y ∈ ps.zip us, (defScope st).names.lookup y.1 = some .local ∨ ((defScope st).names.lookup y.1 = some .cell ∧ ((cellsFrom (s.heap.objs.size + 1) (defScope st).names []).lookup y.1).isSome = true) := fun ⟨n, v⟩ hy =>
    (Sc.par n (List.of_mem_zip hy).1).imp id fun q => ⟨q, PySem.W.cellsFrom_some _ _ _ (.inl q)⟩
  refine codeAny_call_function hr.depth (inK _ _ lk) rfl Sc.co Sc.gen rfl (PySem.W.codeRec_of inK hcd) (hbd _ _ _ _ ?_)
  refine wpAny_newFunctionEnv_cells Sc.kind kinds fun env he s1 xx => ?_
  subst he
  refine ⟨noLim.keeps xx.toInCall.keep, codeAny_func ?_⟩
  have I : Inv (cxOf (L2.CX P w) P w K mg base N qual (defScope st) f cdv A outer s H E) [] (L2.start N (.ref p :: vs)) H s1 := inv_start Sc hr.hd e0 hl r xx
  have Cx : CxG (cxOf (L2.CX P w) P w K mg base N qual (defScope st) f cdv A outer s H E) (fun cls d _ H => E cls d H) k :=
    ⟨takes_of rfl rfl rfl rfl, hg, hr.deeper _, passes_of rfl⟩
  have D := hb cdv A outer s H H0 E W hgm Cx
  have body := hw Z ds μ R p hlen hwf
  have ok0 := startI_ok (N := N) (C := C) al mm da (by rw [hgm]; exact hC) hp stp fr
  have x0 : ∀ {σ' : L2.St} {v : V}, True := trivial
  refine wpAny_mono (D.run [] s1 (L2.start N (.ref p :: vs)) H { nx := fun _ H' => Q .non H', rt := Q } I ⟨W, ⟨slI N p C ds, μ⟩, _, ok0, body, fun ρ' W' σ' H' ⟨fs, h0, h⟩ o l => ?_, fun d ρ' W' σ' y H' h o l rr => h.elim, fun _ _ _ _ q => q.elim, fun _ _ _ _ q => q.elim, fun z ρ' W' σ' H' c dx h o l ex => ?_⟩) (fun fl s' hs => ?_) fun e s' hs => hs
  · obtain ⟨x, e1, e2⟩ := o.val 0 _ h0
    have rs : Rs K W' H' (.oins p C fs) (.ref p) := by
      obtain ⟨Cb, dy, vs', e3, e4⟩ := e2
      exact ⟨Cb, dy, vs', rfl, e4⟩
    refine hQ fs _ W' H' h ⟨o.al, o.en, ⟨rs, fun _ q hq => ?_⟩, o.mm⟩
    cases hq
    obtain ⟨_, _, _, e3, _⟩ := e2
    subst e3
    exact o.frs p ⟨0, _, h0, rfl, e1⟩
  · exact hE _ _ W' _ _ _ h ⟨o.al, o.en, ex, o.mm⟩
  have fin : ∀ {σ' : L2.St} {H' : Hp} {v : V} {u : Value}, Inv (cxOf (L2.CX P w) P w K mg base N qual (defScope st) f cdv A outer s H E) [] σ' H' s' → RelV v u → Q v H' → CE outer P w H s Q u s' :=
    fun {σ' H' v u} J rv q => ⟨v, H', J.os, J.bare, J.base, J.hok, rv, q⟩
  match fl, hs with
  | .ret u, ⟨v, σ', H', J, rv, q⟩ => exact fin J rv q
  | .next, ⟨σ', H', J, q⟩ => exact fin (v := V.non) (u := Value.none) J rfl q
  | .brk, ⟨_, _, _, q⟩ => exact False.elim q
  | .cont, ⟨_, _, _, q⟩ => exact False.elim q

end

/-- a fresh instance is let be a cell -/
theorem Go.addC {K : PySem.W.Frag} {G : Gx} {σ : L2.St} {ρ ρ1 : Rho} {W W1 : Wd} {H H1 : Hp} {p : Addr} {C : Str} {fs : List (Str × D)} (ok : Ok K G W ρ σ H) (g : Go K G σ ρ W H ρ1 W1 H1) (r : Res K H W1 H1 (.oins p C fs) (.ref p)) :
    Go K G σ ρ W H ⟨ρ1.sl, ρ1.mm ++ [⟨C, fs⟩]⟩ (W1.addC p) H1 ∧ Dn K (W1.addC p) H1 (.cell ρ1.mm.length) (.ref p) := by
  obtain ⟨Ca, dx, vs, _, hC, hp, hf⟩ := r.rs
  obtain ⟨nf, nj, nc, h0⟩ := r.fr rfl p rfl
  have l : Le W1 H1 (W1.addC p) H1 := ⟨fun _ h => h, fun _ h => h, fun _ _ => rfl, fun i a h => by
    show (W1.C ++ [p])[i]? = some a
    rw [List.getElem?_append_left (List.getElem?_eq_some_iff.mp h).1]; exact h, rfl, rfl⟩
  have memC : ∀ a, a ∈ (W1.addC p).C → a ∈ W1.C ∨ a = p := fun a h => by
    have h : a ∈ W1.C ++ [p] := h
    simpa using h
  have al : Al (W1.addC p) H1 := ⟨g.ok.al.f, fun a q => (g.ok.al.j a q).le l rfl, g.ok.al.d, fun a h => (memC a h).elim (g.ok.al.c a) fun e => by subst e; exact ⟨nf, nj, _, hp⟩, by
    show (W1.C ++ [p]).Nodup
    rw [List.nodup_append]
    exact ⟨g.ok.al.nd, by simp, fun a ha b hb => by simp at hb; subst hb; rintro rfl; exact nc ha⟩, g.ok.al.t⟩
  have own : ∀ a, Ow ρ1 σ a → a ≠ p := fun a h e => by
    obtain ⟨u, hu⟩ := ok.here (g.sub a h)
    rw [e, h0] at hu
    cases hu
  refine ⟨⟨⟨g.ok.len, fun i e h => ?_, fun a h => ?_, g.ok.inj, al, ?_, ?_⟩, ?_, g.sub⟩, .cell ?_⟩
  · obtain ⟨y, e1, e2⟩ := g.ok.val i e h
    exact ⟨y, e1, e2.le l fun _ _ _ => rfl⟩
  · obtain ⟨a1, a2, a4, a3⟩ := g.ok.frs a h
    exact ⟨a1, a2, fun z => (memC a z).elim a4 (own a h), a3⟩
  · exact ⟨g.ok.en.le.trans l, g.ok.en.nF, g.ok.en.nJ, fun a q => (memC a q).elim (g.ok.en.nC a) fun e => .inr (by rw [e]; exact ok.upG h0), g.ok.en.st, g.ok.en.up⟩
  · refine ⟨?_, g.ok.mm.tab, fun i cl a h1 h2 => ?_⟩
    · show (ρ1.mm ++ [_]).length = (W1.C ++ [p]).length
      rw [List.length_append, List.length_append, g.ok.mm.len]; rfl
    · have h1 : (ρ1.mm ++ [⟨C, fs⟩])[i]? = some cl := h1
      have h2 : (W1.C ++ [p])[i]? = some a := h2
      by_cases q : i < ρ1.mm.length
      · rw [List.getElem?_append_left q] at h1
        rw [List.getElem?_append_left (by rw [← g.ok.mm.len]; exact q)] at h2
        exact (g.ok.mm.at_ i cl a h1 h2).le l rfl
      · rw [List.getElem?_append_right (by omega)] at h1
        rw [List.getElem?_append_right (by rw [← g.ok.mm.len]; omega), ← g.ok.mm.len] at h2
        have : i - ρ1.mm.length = 0 := by
          have := (List.getElem?_eq_some_iff.mp h1).1
          simp at this; omega
        rw [this] at h1 h2
        cases h1; cases h2
        exact .inl ⟨Ca, dx, vs, hC, hp, hf.le l⟩
  · exact ⟨g.stp.le.trans l, g.stp.nF, g.stp.nJ, fun a q => (memC a q).elim (g.stp.nC a) fun e => .inr (by rw [e]; exact h0), g.stp.st, g.stp.up⟩
  · show (W1.C ++ [p])[ρ1.mm.length]? = some p
    rw [g.ok.mm.len, List.getElem?_append_right (Nat.le_refl _), Nat.sub_self]; rfl

/-! ### C(..) -/

/-- how a new instance is told from then on: frozen, or as a cell -/
def WF.mk (cell : Bool) (C : Str) (wf : WF) : WF := fun Z ds μ R => wf Z ds μ fun s μ' => match s with
  | .d (.ins _ fs) => if cell = true then R (.d (.cell μ'.length)) (μ' ++ [⟨C, fs⟩]) else R s μ'
  | _ => False

def DfI (P : Program) (w : World) (K : PySem.W.Frag) (mg : Str → Option Value) (base : Heap) (k : Nat) (C qual : Str) (st : Stmt) (ps : List Str) (wf : WF) : Prop :=
  ∃ Ca f fd, mg C = some (.ref Ca) ∧ Cls K Ca ∧ Mk K Ca f ∧ Fun K "__init__" qual st f fd ∧ Binds K fd ps [] ∧ FnI P w K mg base k f fd C ps wf

section

variable {X : Cx} {G : Gx} {T : WX} {a b c e o value : Expr} {w wa wb wo : WE} {pos pos' p apos cpos : Pos} {i k j : Nat} {f C m : Str} {ps : List Str} {wf : WF} {es : List Expr} {kws : List Keyword} {u uk : WA}

theorem run_mk {pins : List (Addr × Obj)} {σ : L2.St} {ρ : Rho} {W : Wd} {H : Hp} {s : Shared} {us0 us : List Value} {kw : List (Str × Value)} {vs : List V} {ds : List D} {R : S → Mem → Prop} {Z : Exn → Mem → Prop} {Q : VK} {Ca fa : Addr} {fd : FuncData} (cell : Bool) (Cx : CxG X T k) (hG : G.W.g = X.mg)
    (hm : X.mg C = some (.ref Ca)) (M : Mk X.K Ca fa) (F : FnI X.prog X.w X.K X.mg X.base j fa fd C ps wf) (hj : j + 1 ≤ k) (hb : ∀ (s' : Shared) (x : Value), X.K.In s'.heap → BindsTo s' fd ⟨x :: us0, kw⟩ (ps.zip (x :: us))) (I : Inv X pins σ H s) (r : Vals vs us) (hl : ds.length + 1 = ps.length)
    (ok : Ok X.K G W ρ σ H) (da : DnA X.K W H ds vs) (h : WF.mk cell C wf Z ds ρ.mm R)
    (hR : ∀ d μ W' x H', R d μ → Go X.K G σ ρ W H ⟨ρ.sl, μ⟩ W' H' → Res X.K H W' H' d x → Q x H') (hZ : ∀ x μ W' H' c dx, Z x μ → Go X.K G σ ρ W H ⟨ρ.sl, μ⟩ W' H' → ExAt X.K W' H' x c dx → T c dx σ H') :
    wpAny (model X.prog X.w) X.A (call (.ref Ca) us0 kw) (EP X pins σ Q) X.xe s := by
  have I2 := Inv.made (C := Ca) I
  have hp0 : H (s.heap.objs.size + 1) = none := I.hok.fresh (Nat.le_succ _)
  have hd0 : H s.heap.objs.size = none := I.hok.fresh (Nat.le_refl _)
  have ne : s.heap.objs.size ≠ s.heap.objs.size + 1 := Nat.ne_of_lt (Nat.lt_succ_self _)
  generalize hp : s.heap.objs.size + 1 = p at *
  generalize hd : s.heap.objs.size = dx at *
  have s1 : Step no1 W H W (upd H dx (.own p)) := step_new ok.al hd0
  have a1 : Al W (upd H dx (.own p)) := al_new ok.al hd0
  have hp1 : (upd H dx (.own p)) p = none := by rw [upd_ne (Ne.symm ne)]; exact hp0
  have st : Step no1 W H W (upd (upd H dx (.own p)) p (.ins Ca dx [])) := s1.trans (step_new a1 hp1) fun _ q => q.elim
  have al : Al W (upd (upd H dx (.own p)) p (.ins Ca dx [])) := al_new a1 hp1
  have kc : ∀ a ∈ W.C, (upd (upd H dx (.own p)) p (.ins Ca dx [])) a = H a := fun a q => (cells_new a1 hp1 a q).trans (cells_new ok.al hd0 a q)
  have mm := ok.mm.keep st.le rfl kc
  have fr : ¬ W.F p ∧ ¬ W.J p ∧ ¬ p ∈ W.C ∧ H p = none := by
    refine ⟨fun q => ?_, fun q => ?_, fun q => ?_, hp0⟩
    · obtain ⟨_, z⟩ := ok.al.f p q
      rw [hp0] at z; cases z
    · obtain ⟨_, z⟩ := (ok.al.j p q).some
      rw [hp0] at z; cases z
    · obtain ⟨_, _, _, z⟩ := ok.al.c p q
      rw [hp0] at z; cases z
  have gd : (X.A.under (.builtin "type.__call__" ⟨.ref Ca :: us0, kw⟩)).guards = some [] := by
    unfold Around.under
    rw [Cx.gd]
    rfl
  subst hd
  subst hp
  refine wpAny_call (make_map (f := fa) I.kIn M.makes M.init (beq_iff_eq.mp M.fn) (codeAny_mono (F _ X.stack _ _ H ⟨Value.ref (s.heap.objs.size + 1) :: us0, kw⟩ (Value.ref (s.heap.objs.size + 1) :: us) vs ds W ρ.mm _ Z (fun v H2 => v = .non ∧ Q (.ref (s.heap.objs.size + 1)) H2) (fun c dx H' => T c dx σ H') (s.heap.objs.size + 1) Ca s.heap.objs.size gd
    ((Cx.rm.mono hj).make Ca us0 kw) (I2.env0.make Ca us0 kw) (hb _ _ I2.kIn) (.cons rfl r) hl al mm (ok.en.le.g.trans hG) (da.le st.le) hm upd_same st fr h
    (fun fs μ' W' H' hr rt => ⟨rfl, ?_⟩) (fun x μ W' H' c dx hz rt => hZ x μ W' H' c dx hz (ok.grow rt.stp rt.al rt.mm) rt.ex)) fun r s' hq' => ?_))
  · have g := ok.grow rt.stp rt.al rt.mm
    dsimp only at hr
    cases cell with
    | true =>
      rw [if_pos rfl] at hr
      obtain ⟨g2, d2⟩ := g.addC ok rt.res
      exact hR _ _ _ _ _ hr g2 (.of d2)
    | false =>
      rw [if_neg (by decide)] at hr
      obtain ⟨W2, g2, d2, l⟩ := g.freeze ok rt.res
      exact hR _ _ W2 _ _ hr g2 (.of d2)
  · match r, hq' with
    | .error e, hq => exact Cx.tk e s' (XE.of_call (W := T) I2 (fun _ _ _ q => q) hq)
    | .ok (.ret u), hq =>
      obtain ⟨v, H', I3, rv, ev, q3⟩ := I2.after hq
      subst ev
      exact ⟨rv, ⟨V.ref (s.heap.objs.size + 1), H', I3, rfl, q3⟩⟩

variable {p0 : Str}

theorem de_make {x qual : Str} {st : Stmt} (cell : Bool) (Cx : CxG X T k) (hG : G.W.g = X.mg) (F : DfI X.prog X.w X.K X.mg X.base j x qual st (p0 :: ps) wf) (hj : j + 1 ≤ k) (ha : DA X G T (e :: es) u)
    (hg : Gl X x := by rfl) (hdb : (x == ("__debug__" : Str)) = false := by decide) (he : starEach (e :: es) X.env = (false, eval e X.env) :: starEach es X.env := by rfl) (hpl : (backTo pos (starEach es X.env)).any (·.1) = false := by rfl) :
    DE X G T (.Call (.Name x p) (e :: es) [] pos) (wCall ps.length (WF.mk cell x wf) u) := by
  obtain ⟨Ca, f, fd, hm, c, M, Fu, hbi, F⟩ := F
  refine ⟨fun pins s σ H Q I ⟨W, ρ, R, Z, ok, h, hR, hZ⟩ => ?_⟩
  refine wpAny_Call_Name_kw (ld_glob I hg hm ?_ hdb)
  have args : lA X.K G T u σ H fun vs H1 => ∃ ds W1 ρ1, Go X.K G σ ρ W H ρ1 W1 H1 ∧ DnA X.K W1 H1 ds vs ∧ ds.length = ps.length ∧ WF.mk cell x wf (fun x μ => Z x ⟨ρ1.sl, μ⟩) ds ρ1.mm fun s μ => R s ⟨ρ1.sl, μ⟩ :=
    ⟨W, ρ, _, Z, ok, h, fun ds ρ1 W1 xs H1 ⟨h1, h2⟩ g d => ⟨ds, W1, ρ1, g, d, h1, h2⟩, hZ⟩
  refine PySem.W.callWith_K (h₀ := X.base) I.ok.mod.kin M.kp (thn (ha.run pos pins s σ H _ I args) fun us s1 ⟨vs, H1, I1, r, ds, W1, ρ1, g, d, h1, h2⟩ => ⟨I1.kIn, ?_⟩) he hpl
  exact run_mk cell Cx hG hm M F hj (fun s' x X' => by
    have := hbi s' (x :: us) X' (by rw [List.append_nil, List.length_cons, ← r.length, ← d.length, h1]; rfl)
    rwa [List.append_nil] at this) I1 r (by rw [h1]; rfl) g.ok d h2 (fun d μ W' x H' hr g' rs => hR d _ W' x H' hr (g.trans g') (rs.up g.stp.up)) fun x μ W' H' c dx hz g' ex => hZ x _ W' H' c dx hz (g.trans g') ex

end

end DL







/-! DL18: classmethods, isinstance with own classes. -/

namespace DL

open PySem PySem.Spec L2

def DfC (P : Program) (w : World) (K : PySem.W.Frag) (mg : Str → Option Value) (base : Heap) (k : Nat) (C m qual : Str) (st : Stmt) (ps : List Str) (wf : WF) : Prop :=
  ∃ Ca mc p g fd, mg C = some (.ref Ca) ∧ ClX.CRead K Ca mc ∧ ClX.CMet K Ca mc m p g ∧ Fun K m qual st g fd ∧ Binds K fd ps [] ∧ FnG P w K mg base k g fd ps wf

section

variable {X : Cx} {G : Gx} {T : WX} {a b c e o value : Expr} {w wa wb wo : WE} {pos pos' p apos cpos : Pos} {i k j : Nat} {f C m : Str} {ps : List Str} {wf : WF} {es : List Expr} {kws : List Keyword} {u uk : WA}

def wCMeth (C : Str) (n : Nat) (wf : WF) (u : WA) : WE := fun Z ρ R => u Z ρ fun ds ρ1 => ds.length = n ∧ wf (fun y μ => Z y ⟨ρ1.sl, μ⟩) (.cls C :: ds) ρ1.mm fun s μ => R s ⟨ρ1.sl, μ⟩

variable {p0 : Str}

theorem de_cmeth {qual : Str} {st : Stmt} {pl : Sem Bool} (Cx : CxG X T k) (hG : G.W.g = X.mg) (F : DfC X.prog X.w X.K X.mg X.base j C m qual st (p0 :: ps) wf) (hj : j ≤ k) (ha : DA X G T (e :: es) u)
    (hgl : Gl X C := by rfl) (hdb : (C == ("__debug__" : Str)) = false := by decide)
    (hst : starEach (e :: es) X.env = (false, eval e X.env) :: starEach es X.env := by rfl) (hpl : (backTo pos (starEach es X.env)).any (·.1) = false := by rfl)
    (ht : eval (.Call (.Attribute (.Name C p) m apos) (e :: es) [] pos) X.env = (do
      let ov ← eval (.Name C p) X.env
      standAt apos.atName
      let (f, first) ← holding [ov] (getMethod ov m pl)
      callWith pos f first (backTo pos (starEach (e :: es) X.env)) (backToKw pos (keywordEach [] X.env))) := by rfl) :
    DE X G T (.Call (.Attribute (.Name C p) m apos) (e :: es) [] pos) (wCMeth C ps.length wf u) := by
  obtain ⟨Ca, mc, p', g, fd, hm, cr, cm, _, hbi, F⟩ := F
  refine ⟨fun pins s σ H Q I ⟨W, ρ, R, Z, ok, h, hR, hZ⟩ => ?_⟩
  refine PySem.W.methodCall_KW (pl := pl) (thn ((pe_glob (v := .ref Ca) hgl hm rfl hdb).run pins s σ H (fun x H1 => x = .ref Ca ∧ H1 = H) I ⟨rfl, rfl⟩) fun uv s1 ⟨x, H1, I1, rx, ex, eH⟩ => ?_) ht
  subst ex
  subst eH
  obtain rfl : uv = Value.ref Ca := rx
  refine ClX.getmethcm_ok I1 cr cm fun s2 I2 => ?_
  have args : lA X.K G T u σ H1 fun vs H2 => ∃ ds W2 ρ2, Go X.K G σ ρ W H1 ρ2 W2 H2 ∧ DnA X.K W2 H2 ds vs ∧ ds.length = ps.length ∧ wf (fun y μ => Z y ⟨ρ2.sl, μ⟩) (.cls C :: ds) ρ2.mm fun s μ => R s ⟨ρ2.sl, μ⟩ :=
    ⟨W, ρ, _, Z, ok, h, fun ds ρ2 W2 xs H2 ⟨h1, h2⟩ g da => ⟨ds, W2, ρ2, g, da, h1, h2⟩, hZ⟩
  refine ClX.callwith_cm I2 (ClX.base_none I1 (Nat.le_refl _)) cm.fi (thn (ha.run pos _ s2 σ H1 _ I2 args) fun us s3 ⟨vs, H2, I3, rv, ds, W2, ρ2, g2, da, hl2, hw⟩ => ⟨⟨ClX.pin_at I3, I3.kIn⟩, ?_⟩) hst hpl
  have hb' := hbi s3 (.ref Ca :: us) I3.kIn (by rw [List.append_nil, List.length_cons, ← rv.length, ← da.length, hl2]; rfl)
  rw [List.append_nil] at hb'
  have dC : Dn X.K W2 H2 (.cls C) (.ref Ca) := .cls (by rw [g2.ok.en.le.g, hG]; exact hm)
  have z : wpAny (model X.prog X.w) X.A (call (.ref s1.heap.objs.size) us) (EP X ((s1.heap.objs.size, PySem.W.methodObj (.ref g) (.ref Ca)) :: pins) σ Q) X.xe s3 :=
    wpAny_call (PySem.W.method_call (ClX.pin_at I3) (codeAny_mono (run_g (us := .ref Ca :: us) (vs := .ref Ca :: vs) Cx hG F hj hb' I3 (.cons rfl rv) (by rw [List.length_cons, hl2]; rfl) g2.ok (.cons dC da) hw (fun d' μ W' x H' hr g' rs => hR d' _ W' x H' hr (g2.trans g') (rs.up g2.stp.up)) fun x μ W' H' c dx hz g' ex => hZ x _ W' H' c dx hz (g2.trans g') ex) fun r s' hq => by
      match r, hq with
      | .error e, hq => exact hq
      | .ok (.ret u), hq => exact hq))
  exact thn z fun _ _ y => ClX.unpinE y

def wCMethK (C : Str) (n n2 : Nat) (is : List Nat) (wf : WF) (uk : WA) : WE := fun Z ρ R => uk Z ρ fun es ρ1 => es.length = n2 ∧ (permL .non is es).length = n ∧ (∀ i ∈ is, i < es.length) ∧ wf (fun y μ => Z y ⟨ρ1.sl, μ⟩) (.cls C :: permL .non is es) ρ1.mm fun s μ => R s ⟨ρ1.sl, μ⟩

theorem de_cmethK {qual : Str} {st : Stmt} {pl : Sem Bool} (is : List Nat) (ks : List Str) (Cx : CxG X T k) (hG : G.W.g = X.mg) (F : DfC X.prog X.w X.K X.mg X.base j C m qual st (p0 :: ps) wf) (hj : j ≤ k) (hkw : DK X G T kws uk)
    (hbi : ∀ (kV doc pm : Value) (an : Option Addr) (cdv ct : Value) (x : Value) (ws : List Value), ws.length = ks.length → bindArgs (PySem.W.fnOf m qual (defArgs st) (defBody st) (defScope st) .none kV doc pm an cdv ct) ⟨[x], ks.zip ws⟩ = pure ((p0 :: ps).zip (x :: permL .none is ws)))
    (hall : (backToKw pos (keywordEach kws X.env)).all (·.1.isSome) = true := by rfl) (hks : (backToKw pos (keywordEach kws X.env)).filterMap (·.1) = ks := by rfl)
    (hgl : Gl X C := by rfl) (hdb : (C == ("__debug__" : Str)) = false := by decide)
    (hpl : ((backTo pos (starEach [] X.env)).any (·.1) || (backToKw pos (keywordEach kws X.env)).any (·.1.isNone)) = false := by rfl)
    (ht : eval (.Call (.Attribute (.Name C p) m apos) [] kws pos) X.env = (do
      let ov ← eval (.Name C p) X.env
      standAt apos.atName
      let (f, first) ← holding [ov] (getMethod ov m pl)
      callWith pos f first (backTo pos (starEach [] X.env)) (backToKw pos (keywordEach kws X.env))) := by rfl) :
    DE X G T (.Call (.Attribute (.Name C p) m apos) [] kws pos) (wCMethK C ps.length ks.length is wf uk) := by
  obtain ⟨Ca, mc, p', g, fd, hm, cr, cm, Fu, _, F⟩ := F
  refine ⟨fun pins s σ H Q I ⟨W, ρ, R, Z, ok, h, hR, hZ⟩ => ?_⟩
  refine PySem.W.methodCall_KW (pl := pl) (thn ((pe_glob (v := .ref Ca) hgl hm rfl hdb).run pins s σ H (fun x H1 => x = .ref Ca ∧ H1 = H) I ⟨rfl, rfl⟩) fun uv s1 ⟨x, H1, I1, rx, ex, eH⟩ => ?_) ht
  subst ex
  subst eH
  obtain rfl : uv = Value.ref Ca := rx
  refine ClX.getmethcm_ok I1 cr cm fun s2 I2 => ?_
  have kargs : lA X.K G T uk σ H1 fun zs H2 => ∃ es2 W2 ρ2, Go X.K G σ ρ W H1 ρ2 W2 H2 ∧ DnA X.K W2 H2 es2 zs ∧ es2.length = ks.length ∧ (permL .non is es2).length = ps.length ∧ (∀ i ∈ is, i < es2.length) ∧ wf (fun y μ => Z y ⟨ρ2.sl, μ⟩) (.cls C :: permL .non is es2) ρ2.mm fun s μ => R s ⟨ρ2.sl, μ⟩ :=
    ⟨W, ρ, _, Z, ok, h, fun ds ρ2 W2 xs H2 ⟨h1, h2⟩ g da => ⟨ds, W2, ρ2, g, da, h1, h2⟩, hZ⟩
  refine PySem.W.callWith_of hpl (PySem.W.keeps_M (self := .ref Ca) cm.fi) (PyProof.Rows.evalArgs_kw2_nil hall (thn (hkw.run pos _ s2 σ H1 _ I2 kargs) fun ws s3 ⟨zs, H2, I3, rz, es2, W2, ρ2, g2, d2, l2, l3, l4, hw⟩ => ⟨⟨ClX.pin_at I3, I3.kIn⟩, ?_⟩))
  rw [hks]
  have dp := dna_perm d2 l4
  have rp := vals_perm rz (is := is) (by rw [← d2.length]; exact l4)
  obtain ⟨oc, od, kV, doc, pm, an, cdv, ct, osl, rfl, lk, hcd⟩ := Fu.ex
  have bt : BindsTo s3 (PySem.W.fnOf m qual (defArgs st) (defBody st) (defScope st) .none kV doc pm an cdv ct) ⟨[Value.ref Ca], ks.zip ws⟩ ((p0 :: ps).zip (.ref Ca :: permL .none is ws)) :=
    .of_eq (hbi kV doc pm an cdv ct (.ref Ca) ws (by rw [← rz.length, ← d2.length]; exact l2))
  have dC : Dn X.K W2 H2 (.cls C) (.ref Ca) := .cls (by rw [g2.ok.en.le.g, hG]; exact hm)
  have z : wpAny (model X.prog X.w) X.A (call (.ref s1.heap.objs.size) [] (ks.zip ws)) (EP X ((s1.heap.objs.size, PySem.W.methodObj (.ref g) (.ref Ca)) :: pins) σ Q) X.xe s3 :=
    wpAny_call (PySem.W.method_call (ClX.pin_at I3) (codeAny_mono (run_g (us := .ref Ca :: permL .none is ws) (vs := .ref Ca :: permL .non is zs) Cx hG F hj bt I3 (.cons rfl rp) (by rw [List.length_cons, l3]; rfl) g2.ok (.cons dC dp) hw (fun d' μ W' x H' hr g' rs => hR d' _ W' x H' hr (g2.trans g') (rs.up g2.stp.up)) fun x μ W' H' c dx hz g' ex => hZ x _ W' H' c dx hz (g2.trans g') ex) fun r s' hq => by
      match r, hq with
      | .error e, hq => exact hq
      | .ok (.ret u), hq => exact hq))
  exact thn z fun _ _ y => ClX.unpinE y

/-! ### isinstance(x, C) -/

end

/-- C is a class that isinstance asks -/
def IsiX (K : PySem.W.Frag) (mg : Str → Option Value) (C : Str) : Prop := ∃ Ca, mg C = some (.ref Ca) ∧ PySem.W.isClsIn K Ca = true ∧ PySem.W.typeIn K (.ref Ca) = some (.type "type")

/-- instances of C are asked -/
def InsX (K : PySem.W.Frag) (mg : Str → Option Value) (C : Str) : Prop := ∃ Ca, mg C = some (.ref Ca) ∧ Cls K Ca ∧ PySem.W.findIn K (.ref Ca) "__class__" = some (some (.builtin "object.__class__")) ∧
  PySem.W.specialIn K (.builtin "object.__class__") "__get__" = some (some (.builtin "getset_descriptor.__get__")) ∧ PySem.W.takesIn K (.builtin "object.__class__") = some true ∧ PySem.W.mroIn K Ca (.type "object") = some true

/-- an instance of C' is (b) or is no C -/
def SubX (K : PySem.W.Frag) (mg : Str → Option Value) (C' C : Str) (b : Bool) : Prop := ∃ Ca Cb, mg C' = some (.ref Ca) ∧ mg C = some (.ref Cb) ∧ PySem.W.kitOne K (.ref Ca) (.ref Cb) = some b

theorem SubX.self {K : PySem.W.Frag} {mg : Str → Option Value} {C : Str} {Ca : Addr} (h : mg C = some (.ref Ca)) : SubX K mg C C true := ⟨Ca, Ca, h, h, by unfold PySem.W.kitOne; simp⟩

/-- the own class of an instance -/
def D.own (x : D) (μ : Mem) : Option Str := match x with
  | .ins C _ => some C
  | .cell i => (μ[i]?).map Cell.cls
  | _ => none

section

variable {X : Cx} {G : Gx} {T : WX} {a : Expr} {wa : WE} {pos p cpos : Pos} {C : Str}

end

end DL









/-! DL19: len(x), x == y by own methods. -/

namespace DL

open PySem PySem.Spec L2

section

variable {X : Cx} {G : Gx} {T : WX} {a b c e o value : Expr} {w wa wb wo : WE} {pos pos' p apos cpos : Pos} {i k j : Nat} {f C m : Str} {ps : List Str} {wf : WF} {p0 p1 : Str}

/-- an instance, where it lies, by the cells -/
theorem fsOf_cells {K : PySem.W.Frag} {W : Wd} {H : Hp} {μ : Mem} (mm : Cells K W μ H) {x : D} {v : V} {fs : List (Str × D)} {Cz : Addr} (hz : W.g C = some (.ref Cz)) (d : Dn K W H x v) (e : x.fsOf C μ = some fs) : ∃ a Ca dx vs, v = .ref a ∧ W.g C = some (.ref Ca) ∧ H a = some (.ins Ca dx vs) ∧ DnF K W H fs vs := by
  unfold D.fsOf at e
  split at e
  · split at e
    · rename_i q; cases e; subst q
      cases d with
      | ins h1 h2 h3 h4 => exact ⟨_, _, _, _, rfl, h2, h3, h4⟩
    · cases e
  · split at e
    · rename_i c hc
      split at e
      · rename_i q; cases e; subst q
        cases d with
        | cell h =>
          obtain ⟨Ca, dx, vs, h1, h2, h3⟩ := (mm.at_ _ c _ hc h).ins hz
          exact ⟨_, _, _, _, rfl, h1, h2, h3⟩
      · cases e
    · cases e
  · cases e

end

end DL










/-! DL20: sorted(dict) of any length; d.get(k, z), k in d of a dict that comes. -/

namespace L2

open PySem PySem.Spec PyProof.Rows

section

variable {X : Cx}

/-- sorted(d) of a dict, all keys ints -/
theorem call_sortedDL (hcalm : X.calm = true) : CallR X (.builtin "sorted") (fun xs H Q => ∃ (a : Addr) (kvs : List (Key × V)) (ks : List Int), xs = [.ref a] ∧ Rd H a (.dK kvs) ∧ kvs.map (·.1) = ks.map Sum.inl ∧
    ∀ (ys : List Int) (p : Addr), ys.Perm ks → ys.Pairwise (· ≤ ·) → H p = none → Q (.ref p) (upd H p (.lst (ys.map V.int)))) := by
  intro pins s σ H xs us Q I r q
  obtain ⟨a, kvs, ks, ex, hd, hks, q⟩ := q
  subst ex
  obtain ⟨u, eu, rx⟩ := vals1 r
  subst eu
  cases rx
  obtain ⟨z, lo, vs, rel, dd⟩ := dk_rd I.hok hd
  obtain ⟨ep, hat⟩ := dd.dictAt
  have hkeys : vs.map (·.1) = ks.map Sum.inl := rel.keys.symm.trans hks
  have hl : vs.length = ks.length := by
    have e := congrArg List.length hkeys
    rw [List.length_map, List.length_map] at e
    exact e
  have h16 : vs.length ≤ sizeLine := by rw [← rel.length]; exact z
  refine Calls.call_function_entry PyProof.Rows.kind_sorted PyProof.Rows.plain_sorted PyProof.Rows.entry_sorted (PyProof.Rows.args_sorted1 _) ?_
  unfold Builtin.«sorted»
  refine wpAny_bind (m := checkCount "sorted" 1 1 _) (wpAny_pure ?_)
  refine wpAny_bind (PySem.W.kdu_collect (A := X.A.in1) (PySem.W.kdl_dict (knd := mixKind X.prog X.w) (kvs := vs) (ep := ep) lo) (I.ok.hd hcalm) hat h16 fun h' tk acc hk hacc => ?_)
  have hal : acc.toList.length = ks.length := by rw [Array.length_toList, hacc.1, hl]
  have hS : IntsAre acc.toList ks := ints_each hal fun j v e => by
    obtain ⟨k, x, e1, e2⟩ := hacc.2 j v (by rw [← Array.getElem?_toList]; exact e)
    have e3 : (vs.map (·.1))[j]? = some k := by rw [List.getElem?_map, e1]; rfl
    rw [hkeys, List.getElem?_map] at e3
    cases e4 : ks[j]? with
    | none => rw [e4] at e3; cases e3
    | some y =>
      rw [e4] at e3
      have e5 : Sum.inl y = k := Option.some.inj e3
      subst e5
      rcases keyIs_shape (show keyIs (Sum.inl y) v = true from e2) with ⟨i, t, ek, ev⟩ | ⟨z, t, ek, ev⟩
      · cases ek
        exact ⟨y, t, rfl, ev⟩
      · cases ek
  have I1 : Inv X pins σ H { s with heap := h', toks := tk } := I.kept hk
  have hz : acc.toList.length ≤ sizeLine := by rw [hal, ← hl]; exact h16
  refine wpAny_bind (wpAny_newList ?_ hz)
  have hoL : (h'.push (seqObj "list" acc.toList.toArray 0)).get? h'.objs.size = some (seqObj "list" acc.toList.toArray 0) := Heap.get?_push_size _ rfl
  show wpAny _ _ _ _ _ { s with heap := h'.push (seqObj "list" acc.toList.toArray 0), toks := tk }
  refine wpAny_bind (wpAny_holding (wpAny_call_entry PyProof.Rows.slot_list_sort ⟨_, hoL, rfl⟩ PyProof.Rows.entry_list_sort
    (SrtO.list_sort_ord (s := { s with heap := h'.push (seqObj "list" acc.toList.toArray 0), toks := tk }) SrtO.swo_int hoL hz (fun h2 => SrtO.ints_sortable hS h2) fun out g1 g2 => ⟨_, rfl, ?_⟩) (PyProof.Rows.args_list_sort _)))
  obtain ⟨k1, k2, k3⟩ := SrtO.ints_out hS g1 g2
  obtain ⟨e', he'⟩ := PyProof.Rows.sortedHeap_at (vs := acc.toList) (out := out.toArray) hoL
  have hlen : ((out.map SrtO.iv).map V.int).length ≤ sizeLine := by
    rw [List.length_map, k2.length_eq, ← hl]; exact h16
  refine wpAny_pure ⟨_, rfl, .ref h'.objs.size, upd H h'.objs.size (.lst ((out.map SrtO.iv).map V.int)), I1.laid (t' := tk) (fun b u e => ?_) (Nat.le_refl _)
    (show ObjOk X.prog X.w _ _ _ (.lst ((out.map SrtO.iv).map V.int)) from ⟨hlen, out, e', vals_of_ints k1, he'⟩), rfl, q _ _ k2 k3 (I1.hok.fresh (Nat.le_refl _))⟩
  have hb : b < h'.objs.size := Heap.lt_size e
  rw [PyProof.Rows.sortedHeap_old (Nat.ne_of_lt hb) (by rw [size_push']; exact Nat.lt_succ_of_lt hb)]
  exact Heap.get?_push_of_some _ e

end

end L2

namespace L2

open PySem PySem.Spec PyProof.Rows

end L2

namespace DL

open PySem PySem.Spec L2

/-- sorted(x): a list of ints, or a dict whose keys are ints -/
def fSortedX (ds : List D) (R : S → Prop) : Prop := match ds with
  | [.dic kvs] => ∃ ks : List Int, kvs.map (·.1) = ks.map Sum.inl ∧ ∀ ys : List Int, ys.Perm ks → ys.Pairwise (· ≤ ·) → R (.own (ys.map .int))
  | ds => fSorted ds R

def rSortedX (K : PySem.W.Frag) : List V → Hp → VK → Prop := fun xs H Q => rSortedI K xs H Q ∨ ∃ (a : Addr) (kvs : List (Key × V)) (ks : List Int), xs = [.ref a] ∧ Rd H a (.dK kvs) ∧ kvs.map (·.1) = ks.map Sum.inl ∧
    ∀ (ys : List Int) (p : Addr), ys.Perm ks → ys.Pairwise (· ≤ ·) → H p = none → Q (.ref p) (upd H p (.lst (ys.map V.int)))

theorem cr_sortedX {X : Cx} (hc : X.calm = true) : CallR X (.builtin "sorted") (rSortedX X.K) := cr_sortedI.or (call_sortedDL hc)

theorem dnK_keys {K : PySem.W.Frag} {W : Wd} {H : Hp} : ∀ {ds : List (Key × D)} {vs : List (Key × V)}, DnK K W H ds vs → vs.map (·.1) = ds.map (·.1)
  | _, _, .nil => rfl
  | _, _, .cons _ h => congrArg (_ :: ·) (dnK_keys h)

theorem cd_sortedX {K : PySem.W.Frag} : CaD K (rSortedX K) fSortedX := by
  intro G W ρ σ H ds xs R Q ok h f k
  unfold fSortedX at f
  split at f
  · rename_i kvs
    obtain ⟨ks, e, f⟩ := f
    cases h with | cons g h4 => cases h4; cases g with | dic h1 h2 h3 =>
      exact .inr ⟨_, _, ks, rfl, h2.rd, (dnK_keys h3).trans e, fun ys p q1 q2 hp => k _ _ _ _ (f ys q1 q2) (.new ok hp) (res_own ok hp hp (.of_int ys))⟩
  · exact .inl (cd_sorted G W ρ σ H _ xs R Q ok h f k)

/-- sum(x): a list or a tuple of ints -/
def fSumX (ds : List D) (R : S → Prop) : Prop := match ds with
  | [.tup es] => ∃ ns : List Int, es = ns.map .int ∧ R (.d (.int ns.sum))
  | ds => fSum ds R

section

variable {X : Cx} {G : Gx} {T : WX} {a b c e : Expr} {w wa wk wd wz : WE} {pos p apos cpos : Pos}

end

end DL









/-! DL21: four names at once. -/

namespace DL

open PySem PySem.Spec L2

section

variable {X : Cx} {G : Gx} {T : WX} {a b c e : Expr} {wa wb wc we : WE} {pos : Pos}

end

/-! ### None in a list of data -/

end DL










set_option maxHeartbeats 4000000

/-! DL22: sorted of tuples of ints, any lengths, from a list or a tuple. -/

namespace DL

open PySem PySem.Spec L2 PyProof.Rows

/-! ### the order -/

/-- insertion by the order -/
def insT (a : List Int) : List (List Int) → List (List Int)
  | [] => [a]
  | b :: l => if HT.lexLt b a = true then b :: insT a l else a :: b :: l

def sortT (ks : List (List Int)) : List (List Int) := ks.foldr insT []

/-! ### over the machine -/

section

variable {prog : Program} {w : World} {A : Around} {E : Value → Shared → Prop} {s : Shared}

end


/-- a tuple of ints as data -/
abbrev dT (k : List Int) : D := .tup (k.map D.int)

def unI (d : D) : Int := match d with
  | .int i => i
  | _ => 0

def unT (d : D) : List Int := match d with
  | .tup l => l.map unI
  | _ => []

theorem unT_dT (k : List Int) : unT (dT k) = k := by
  show (k.map D.int).map unI = k
  rw [List.map_map]
  conv => rhs; rw [← List.map_id k]
  rfl

theorem unT_map (ks : List (List Int)) : (ks.map dT).map unT = ks := by
  rw [List.map_map]
  conv => rhs; rw [← List.map_id ks]
  exact List.map_congr_left fun k _ => unT_dT k

theorem dn_tupI {K : PySem.W.Frag} {W : Wd} {H : Hp} {ns : List Int} {x : V} (h : Dn K W H (dT ns) x) : TupI K H x ns := by
  cases h with
  | tup h1 h2 => rw [h2.map_int] at h1; exact ⟨_, rfl, h1.sq⟩

where
  dna_mem : ∀ {ks : List (List Int)} {ys : List V} {m : List Int}, DnA K W H (ks.map dT) ys → m ∈ ks → ∃ y ∈ ys, TupI K H y m
  | [], _, _, _, h => by simp at h
  | k :: ks, _ :: ys, m, .cons h1 h2, h => by
    rcases List.mem_cons.mp h with rfl | h
    · exact ⟨_, List.mem_cons_self .., dn_tupI h1⟩
    · obtain ⟨y, hy, ht⟩ := dna_mem h2 h
      exact ⟨y, List.mem_cons_of_mem _ hy, ht⟩

/-- sorted(x): a list or a tuple of tuples of ints -/
def fSortedA (ds : List D) (R : S → Prop) : Prop := ∃ ks : List (List Int), (ds = [.lst (ks.map dT)] ∨ ds = [.tup (ks.map dT)]) ∧ (∀ k ∈ ks, k ≠ []) ∧ R (.own ((sortT ks).map dT))

end DL








/-! DL23: list(range(..)), tuple(range(..)); len and list of dicts. -/

namespace DL

open PySem PySem.Spec L2

section

variable {K : PySem.W.Frag} {W : Wd} {H : Hp}

end

section

variable {X : Cx} {G : Gx} {T : WX} {a b : Expr} {wa wb : WE} {p p1 pos pos1 : Pos}

end

/-! ### len(d), list(d), d a dict -/

def fLenD (ds : List D) (R : S → Prop) : Prop := match ds with
  | [.dic kvs] => R (.d (.int kvs.length))
  | _ => False

def fListD (ds : List D) (R : S → Prop) : Prop := match ds with
  | [.dic kvs] => R (.own (kvs.map fun kv => keyD kv.1))
  | _ => False

end DL








/-! DL24: dict comprehensions; a[k] of a dict that comes. -/

namespace DL

open PySem PySem.Spec L2

section

variable {X : Cx} {G : Gx} {T : WX} {t : WT} {pos p apos cpos : Pos} {a b : Expr} {wa wk : WE}

end

end DL









/-! DL25: xs[::-1] of a tuple. -/

namespace DL

open PySem PySem.Spec L2 PyProof.Rows

section

variable {prog : Program} {w : World} {A : Around} {E : Value → Shared → Prop} {s : Shared}

end

section

variable {X : Cx} {G : Gx} {T : WX} {e : Expr} {w : WE} {p2 pos : Pos}

def fRevT (d : D) (R : S → Prop) : Prop := match d with
  | .tup ds => R (.d (.tup ds.reverse))
  | _ => False

end

end DL







/-! DL26: xs.pop(k) of an own list, as a value. -/

namespace DL

open PySem PySem.Spec L2

section

variable {X : Cx} {G : Gx} {T : WX} {e : Expr} {w : WE} {p apos cpos : Pos}

end

end DL











/-! DL27 (begun): the order of tuples of tuples of ints; the machine's part is not written yet. -/

namespace DL

open PySem PySem.Spec L2 PyProof.Rows

/-- the order of tuples of tuples of ints -/
def lexLtT : List (List Int) → List (List Int) → Bool
  | _, [] => false
  | [], _ :: _ => true
  | x :: a, y :: b => if x = y then lexLtT a b else HT.lexLt x y

def insTT (a : List (List Int)) : List (List (List Int)) → List (List (List Int))
  | [] => [a]
  | b :: l => if lexLtT b a = true then b :: insTT a l else a :: b :: l

def sortTT (ks : List (List (List Int))) : List (List (List Int)) := ks.foldr insTT []

/-! ### over the machine -/

section

variable {prog : Program} {w : World} {A : Around} {E : Value → Shared → Prop} {s : Shared}

inductive TsAre (h : Heap) : List Value → List (List Int) → Prop
  | nil : TsAre h [] []
  | cons {v ns vs nss} : TS.TupInts h v ns → TsAre h vs nss → TsAre h (v :: vs) (ns :: nss)

theorem TsAre.keeps {h h' : Heap} {vs : List Value} {nss : List (List Int)} (x : TsAre h vs nss) (k : ∀ b o, h.get? b = some o → o.cls = .type "tuple" → h'.get? b = some o) : TsAre h' vs nss := by
  induction x with
  | nil => exact .nil
  | cons hv _ ih => exact .cons (hv.keeps k) ih

theorem TsAre.length {h : Heap} {vs : List Value} {nss : List (List Int)} (x : TsAre h vs nss) : vs.length = nss.length := by
  induction x with
  | nil => rfl
  | cons _ _ ih => rw [List.length_cons, List.length_cons, ih]

/-- a tuple of tuples of ints -/
def TupTT (h : Heap) (v : Value) (nss : List (List Int)) : Prop := ∃ a xs, v = .ref a ∧ IsTup h a xs ∧ TsAre h xs.toList nss

theorem TupTT.keeps {h h' : Heap} {v : Value} {nss : List (List Int)} (x : TupTT h v nss) (k : ∀ b o, h.get? b = some o → o.cls = .type "tuple" → h'.get? b = some o) : TupTT h' v nss := by
  obtain ⟨a, xs, e, ⟨o, ho, hc, n, hd⟩, i⟩ := x
  exact ⟨a, xs, e, ⟨o, k a o ho hc, hc, n, hd⟩, i.keeps k⟩

end

inductive VsTI (K : PySem.W.Frag) (H : Hp) : List V → List (List Int) → Prop
  | nil : VsTI K H [] []
  | cons {x ns xs nss} : TupI K H x ns → VsTI K H xs nss → VsTI K H (x :: xs) (ns :: nss)

def SqTT (K : PySem.W.Frag) (H : Hp) (t : Addr) (nss : List (List Int)) : Prop := ∃ xs, SqT K H t xs ∧ VsTI K H xs nss

def TupTI (K : PySem.W.Frag) (H : Hp) (x : V) (nss : List (List Int)) : Prop := ∃ t, x = .ref t ∧ SqTT K H t nss

/-- a tuple of tuples of ints as data -/
abbrev dTT (k : List (List Int)) : D := .tup (k.map dT)

def unTT (d : D) : List (List Int) := match d with
  | .tup l => l.map unT
  | _ => []

theorem unTT_dTT (k : List (List Int)) : unTT (dTT k) = k := unT_map k

theorem unTT_map (ks : List (List (List Int))) : (ks.map dTT).map unTT = ks := by
  rw [List.map_map]
  conv => rhs; rw [← List.map_id ks]
  exact List.map_congr_left fun k _ => unTT_dTT k

theorem vsTI_of {K : PySem.W.Frag} {W : Wd} {H : Hp} : ∀ {nss : List (List Int)} {xs : List V}, DnA K W H (nss.map dT) xs → VsTI K H xs nss
  | [], _, .nil => .nil
  | _ :: _, _ :: _, .cons h1 h2 => .cons (dn_tupI h1) (vsTI_of h2)

theorem dn_tupTI {K : PySem.W.Frag} {W : Wd} {H : Hp} {nss : List (List Int)} {x : V} (h : Dn K W H (dTT nss) x) : TupTI K H x nss := by
  cases h with
  | tup h1 h2 => exact ⟨_, rfl, _, h1.sq, vsTI_of h2⟩

where
  dna_memTT : ∀ {ks : List (List (List Int))} {ys : List V} {m : List (List Int)}, DnA K W H (ks.map dTT) ys → m ∈ ks → ∃ y ∈ ys, TupTI K H y m
  | [], _, _, _, h => by simp at h
  | k :: ks, _ :: ys, m, .cons h1 h2, h => by
    rcases List.mem_cons.mp h with rfl | h
    · exact ⟨_, List.mem_cons_self .., dn_tupTI h1⟩
    · obtain ⟨y, hy, ht⟩ := dna_memTT h2 h
      exact ⟨y, List.mem_cons_of_mem _ hy, ht⟩

/-- sorted(x): a list or a tuple of tuples of ints -/
def fSortedTT (ds : List D) (R : S → Prop) : Prop := ∃ ks : List (List (List Int)), (ds = [.lst (ks.map dTT)] ∨ ds = [.tup (ks.map dTT)]) ∧ (∀ k ∈ ks, k ≠ []) ∧ R (.own ((sortTT ks).map dTT))

end DL







/-! ML1: computations over data: what may come out, as a monotone predicate transformer; equations. -/

namespace DL

open PySem PySem.Spec L2

structure M (α : Type) where
  wp : Mem → (α → Mem → Prop) → Prop
  mono : ∀ {μ : Mem} {P Q : α → Mem → Prop}, (∀ a μ', P a μ' → Q a μ') → wp μ P → wp μ Q

variable {α β γ : Type}

theorem M.ext {m n : M α} (h : ∀ μ P, m.wp μ P = n.wp μ P) : m = n := by
  have e : m.wp = n.wp := funext fun μ => funext (h μ)
  cases m
  cases n
  cases e
  rfl

def M.one (a : α) : M α := ⟨fun μ P => P a μ, fun h => h a _⟩

def M.bind (m : M α) (k : α → M β) : M β := ⟨fun μ P => m.wp μ fun a μ1 => (k a).wp μ1 P, fun h q => m.mono (fun a _ r => (k a).mono h r) q⟩

def M.bad : M α := ⟨fun _ _ => False, fun _ h => h⟩

/-- p must hold -/
def M.req (p : Prop) (m : M α) : M α := ⟨fun μ P => p ∧ m.wp μ P, fun h q => ⟨q.1, m.mono h q.2⟩⟩

/-- any a with p a -/
def M.any (p : α → Prop) : M α := ⟨fun μ P => ∀ a, p a → P a μ, fun h q a ha => h a _ (q a ha)⟩

/-- a predicate transformer, made monotone -/
def M.lift (f : (α → Prop) → Prop) : M α := ⟨fun μ P => ∃ R, f R ∧ ∀ a, R a → P a μ, fun h ⟨R, q, r⟩ => ⟨R, q, fun a ha => h a _ (r a ha)⟩⟩

/-- the cells are asked -/
def M.ask (f : Mem → M α) : M α := ⟨fun μ P => (f μ).wp μ P, fun h q => (f _).mono h q⟩

/-- the cells are changed -/
def M.upd (f : Mem → Mem) (m : M α) : M α := ⟨fun μ P => m.wp (f μ) P, fun h q => m.mono h q⟩

@[simp] theorem wp_one {a : α} {μ : Mem} {P : α → Mem → Prop} : (M.one a).wp μ P = P a μ := rfl

@[simp] theorem wp_bind {m : M α} {k : α → M β} {μ : Mem} {P : β → Mem → Prop} : (m.bind k).wp μ P = m.wp μ fun a μ1 => (k a).wp μ1 P := rfl

@[simp] theorem wp_bad {μ : Mem} {P : α → Mem → Prop} : (M.bad : M α).wp μ P = False := rfl

@[simp] theorem wp_req {p : Prop} {m : M α} {μ : Mem} {P : α → Mem → Prop} : (m.req p).wp μ P = (p ∧ m.wp μ P) := rfl

@[simp] theorem wp_any {p : α → Prop} {μ : Mem} {P : α → Mem → Prop} : (M.any p).wp μ P = ∀ a, p a → P a μ := rfl

@[simp] theorem wp_ask {f : Mem → M α} {μ : Mem} {P : α → Mem → Prop} : (M.ask f).wp μ P = (f μ).wp μ P := rfl

@[simp] theorem wp_upd {f : Mem → Mem} {m : M α} {μ : Mem} {P : α → Mem → Prop} : (M.upd f m).wp μ P = m.wp (f μ) P := rfl

theorem wp_lift {f : (α → Prop) → Prop} {μ : Mem} {P : α → Mem → Prop} : (M.lift f).wp μ P = ∃ R, f R ∧ ∀ a, R a → P a μ := rfl

theorem wp_ite {c : Prop} [Decidable c] {m n : M α} {μ : Mem} {P : α → Mem → Prop} : (if c then m else n).wp μ P = if c then m.wp μ P else n.wp μ P := by split <;> rfl

@[simp ↓] theorem one_bind {a : α} {k : α → M β} : (M.one a).bind k = k a := rfl

@[simp ↓] theorem bind_one {m : M α} : m.bind M.one = m := rfl

@[simp ↓] theorem bind_bind {m : M α} {k : α → M β} {l : β → M γ} : (m.bind k).bind l = m.bind fun a => (k a).bind l := rfl

@[simp ↓] theorem bad_bind {k : α → M β} : (M.bad : M α).bind k = M.bad := rfl

@[simp ↓] theorem req_bind {p : Prop} {m : M α} {k : α → M β} : (m.req p).bind k = (m.bind k).req p := rfl

@[simp ↓] theorem ask_bind {f : Mem → M α} {k : α → M β} : (M.ask f).bind k = M.ask fun μ => (f μ).bind k := rfl

@[simp ↓] theorem upd_bind {f : Mem → Mem} {m : M α} {k : α → M β} : (M.upd f m).bind k = M.upd f (m.bind k) := rfl

@[simp] theorem req_true {m : M α} : m.req True = m := M.ext fun μ P => by simp

@[simp] theorem req_false {m : M α} : m.req False = M.bad := M.ext fun μ P => by simp

@[simp] theorem req_req {p q : Prop} {m : M α} : (m.req q).req p = m.req (p ∧ q) := M.ext fun μ P => by simp [and_assoc]

theorem req_of {p : Prop} {m : M α} (h : p) : m.req p = m := M.ext fun μ P => by simp [h]

theorem lift_one {f : (α → Prop) → Prop} {a : α} (h : ∀ R, f R = R a) : M.lift f = M.one a := M.ext fun μ P => by
  rw [wp_lift, wp_one]
  exact propext ⟨fun ⟨R, q, r⟩ => r a (by rw [← h R]; exact q), fun q => ⟨fun a => P a μ, by rw [h]; exact q, fun _ z => z⟩⟩

theorem lift_req {f : (α → Prop) → Prop} {p : Prop} {a : α} (h : ∀ R, f R = (p ∧ R a)) : M.lift f = (M.one a).req p := M.ext fun μ P => by
  rw [wp_lift, wp_req, wp_one]
  exact propext ⟨fun ⟨R, q, r⟩ => by rw [h] at q; exact ⟨q.1, r a q.2⟩, fun q => ⟨fun a => P a μ, by rw [h]; exact q, fun _ z => z⟩⟩

theorem lift_bad {f : (α → Prop) → Prop} (h : ∀ R, f R = False) : M.lift f = M.bad := M.ext fun μ P => by
  rw [wp_lift, wp_bad]
  exact propext ⟨fun ⟨R, q, _⟩ => by rw [h] at q; exact q, fun q => q.elim⟩

/-- m may take the place of n -/
def M.le (m n : M α) : Prop := ∀ μ P, n.wp μ P → m.wp μ P

theorem M.le_refl (m : M α) : m.le m := fun _ _ h => h

theorem M.le_trans {m n o : M α} (h : m.le n) (h' : n.le o) : m.le o := fun μ P q => h μ P (h' μ P q)

/-- whatever comes out is so, the cells stay -/
def M.sat (m : M α) (P : α → Prop) : Prop := ∀ μ, m.wp μ fun a μ' => μ' = μ ∧ P a

theorem M.sat.mono {m : M α} {P Q : α → Prop} (h : m.sat P) (k : ∀ a, P a → Q a) : m.sat Q := fun μ => m.mono (fun a μ' ⟨e, q⟩ => ⟨e, k a q⟩) (h μ)

theorem M.sat.wp {m : M α} {P : α → Prop} (h : m.sat P) {μ : Mem} {Q : α → Mem → Prop} (k : ∀ a, P a → Q a μ) : m.wp μ Q := m.mono (fun a μ' ⟨e, q⟩ => by subst e; exact k a q) (h μ)

theorem M.sat.bind {m : M α} {P : α → Prop} {k : α → M β} {Q : β → Prop} (h : m.sat P) (hk : ∀ a, P a → (k a).sat Q) : (m.bind k).sat Q := fun μ => h.wp fun a ha => hk a ha μ

theorem M.le.sat {m n : M α} {P : α → Prop} (h : m.le n) (q : n.sat P) : m.sat P := fun μ => h _ _ (q μ)

@[simp] theorem sat_one {a : α} {P : α → Prop} : (M.one a).sat P = P a := propext ⟨fun h => (h []).2, fun h μ => ⟨rfl, h⟩⟩

@[simp] theorem sat_req {p : Prop} {m : M α} {P : α → Prop} : (m.req p).sat P = (p ∧ m.sat P) := propext ⟨fun h => ⟨(h []).1, fun μ => (h μ).2⟩, fun h μ => ⟨h.1, h.2 μ⟩⟩

@[simp] theorem sat_any {p : α → Prop} {P : α → Prop} : (M.any p).sat P = ∀ a, p a → P a := propext ⟨fun h a ha => (h [] a ha).2, fun h μ a ha => ⟨rfl, h a ha⟩⟩

@[simp] theorem sat_anyB {p : α → Prop} {k : α → M β} {P : β → Prop} : ((M.any p).bind k).sat P = ∀ a, p a → (k a).sat P := propext ⟨fun h a ha μ => h μ a ha, fun h μ a ha => h a ha μ⟩

/-! ### what an expression, a statement comes to -/

inductive Oc (α : Type) where
  | v (a : α) | x (e : Exn)

def Oc.elim (r : Oc α) (f : α → β) (g : Exn → β) : β := match r with
  | .v a => f a
  | .x e => g e

@[simp] theorem oc_v {a : α} {f : α → β} {g : Exn → β} : (Oc.v a).elim f g = f a := rfl

@[simp] theorem oc_x {a : Exn} {f : α → β} {g : Exn → β} : (Oc.x a).elim f g = g a := rfl

inductive Fl where
  | nx | bk | ct | rt (s : S) | ex (e : Exn)

abbrev ME (α : Type) := M (Oc α × Sl)

abbrev MS := M (Fl × Sl)

abbrev EM (α : Type) := Sl → ME α

abbrev SM := Sl → MS

def ok (a : α) (ρ : Sl) : ME α := M.one (.v a, ρ)

def er (e : Exn) (ρ : Sl) : ME α := M.one (.x e, ρ)

def bindE (m : ME α) (k : α → Sl → ME β) : ME β := m.bind fun r => r.1.elim (fun a => k a r.2) fun e => er e r.2

/-- a def's answer, a built-in's -/
def put (m : M (Oc α)) (ρ : Sl) : ME α := m.bind fun r => M.one (r, ρ)

def putM (m : M α) (ρ : Sl) : ME α := m.bind fun r => ok r ρ

def nx (ρ : Sl) : MS := M.one (.nx, ρ)

def bk (ρ : Sl) : MS := M.one (.bk, ρ)

def ct (ρ : Sl) : MS := M.one (.ct, ρ)

def rt (s : S) : MS := M.one (.rt s, [])

def ex (e : Exn) (ρ : Sl) : MS := M.one (.ex e, ρ)

def bindES (m : ME α) (k : α → Sl → MS) : MS := m.bind fun r => r.1.elim (fun a => k a r.2) fun e => ex e r.2

def bindN (m : MS) (k : Sl → MS) : MS := m.bind fun r => match r.1 with
  | .nx => k r.2
  | f => M.one (f, r.2)

/-- what a def hands back -/
def val (s : S) : M (Oc S) := M.one (.v s)

def exn (e : Exn) : M (Oc S) := M.one (.x e)

def out (m : MS) : M (Oc S) := m.bind fun r => match r.1 with
  | .nx => val (.d .non)
  | .rt s => val s
  | .ex e => exn e
  | _ => M.bad

def bindR (m : M (Oc S)) (k : S → M (Oc S)) : M (Oc S) := m.bind fun r => r.elim k exn

section

variable {a : α} {ρ : Sl} {e : Exn} {k : α → Sl → ME β} {c : Prop} [Decidable c]

@[simp ↓] theorem bE_ok : bindE (ok a ρ) k = k a ρ := rfl

@[simp ↓] theorem bE_er : bindE (er e ρ) k = er e ρ := rfl

@[simp ↓] theorem bE_bind {m : M γ} {f : γ → ME α} : bindE (m.bind f) k = m.bind fun x => bindE (f x) k := rfl

@[simp ↓] theorem bE_req {m : ME α} {p : Prop} : bindE (m.req p) k = (bindE m k).req p := rfl

@[simp ↓] theorem bE_bad : bindE (M.bad : ME α) k = M.bad := rfl

@[simp ↓] theorem bE_iteL {n : ME α} : bindE (if c then er e ρ else n) k = if c then er e ρ else bindE n k := by split <;> rfl

@[simp ↓] theorem bE_iteR {n : ME α} : bindE (if c then n else er e ρ) k = if c then bindE n k else er e ρ := by split <;> rfl

@[simp ↓] theorem bE_putv {s : α} {k : α → Sl → ME β} : bindE (put (M.one (.v s)) ρ) k = k s ρ := rfl

variable {k : α → Sl → MS}

@[simp ↓] theorem bES_ok : bindES (ok a ρ) k = k a ρ := rfl

@[simp ↓] theorem bES_er : bindES (er e ρ) k = ex e ρ := rfl

@[simp ↓] theorem bES_bind {m : M γ} {f : γ → ME α} : bindES (m.bind f) k = m.bind fun x => bindES (f x) k := rfl

@[simp ↓] theorem bES_req {m : ME α} {p : Prop} : bindES (m.req p) k = (bindES m k).req p := rfl

@[simp ↓] theorem bES_bad : bindES (M.bad : ME α) k = M.bad := rfl

@[simp ↓] theorem bES_iteL {n : ME α} : bindES (if c then er e ρ else n) k = if c then ex e ρ else bindES n k := by split <;> rfl

@[simp ↓] theorem bES_iteR {n : ME α} : bindES (if c then n else er e ρ) k = if c then bindES n k else ex e ρ := by split <;> rfl

variable {k : Sl → MS} {s : S}

@[simp ↓] theorem bN_nx : bindN (nx ρ) k = k ρ := rfl

@[simp ↓] theorem bN_bk : bindN (bk ρ) k = bk ρ := rfl

@[simp ↓] theorem bN_ct : bindN (ct ρ) k = ct ρ := rfl

@[simp ↓] theorem bN_rt : bindN (rt s) k = rt s := rfl

@[simp ↓] theorem bN_ex : bindN (ex e ρ) k = ex e ρ := rfl

@[simp ↓] theorem bN_bind {m : M γ} {f : γ → MS} : bindN (m.bind f) k = m.bind fun x => bindN (f x) k := rfl

@[simp ↓] theorem bN_req {m : MS} {p : Prop} : bindN (m.req p) k = (bindN m k).req p := rfl

@[simp ↓] theorem bN_bad : bindN (M.bad : MS) k = M.bad := rfl

@[simp ↓] theorem bN_iteL1 {n : MS} : bindN (if c then rt s else n) k = if c then rt s else bindN n k := by split <;> rfl

@[simp ↓] theorem bN_iteR1 {n : MS} : bindN (if c then n else rt s) k = if c then bindN n k else rt s := by split <;> rfl

@[simp ↓] theorem bN_iteL2 {n : MS} : bindN (if c then ex e ρ else n) k = if c then ex e ρ else bindN n k := by split <;> rfl

@[simp ↓] theorem bN_iteR2 {n : MS} : bindN (if c then n else ex e ρ) k = if c then bindN n k else ex e ρ := by split <;> rfl

@[simp ↓] theorem bN_iteL3 {n : MS} : bindN (if c then ct ρ else n) k = if c then ct ρ else bindN n k := by split <;> rfl

@[simp ↓] theorem bN_iteR3 {n : MS} : bindN (if c then n else ct ρ) k = if c then bindN n k else ct ρ := by split <;> rfl

@[simp ↓] theorem bN_iteL4 {n : MS} : bindN (if c then bk ρ else n) k = if c then bk ρ else bindN n k := by split <;> rfl

@[simp ↓] theorem bN_iteR4 {n : MS} : bindN (if c then n else bk ρ) k = if c then bindN n k else bk ρ := by split <;> rfl

@[simp ↓] theorem bN_bN {m : MS} {l : Sl → MS} : bindN (bindN m k) l = bindN m fun ρ => bindN (k ρ) l := M.ext fun μ P => by
  unfold bindN
  simp only [wp_bind]
  congr 1
  funext r μ1
  obtain ⟨f, ρ⟩ := r
  cases f <;> rfl

@[simp ↓] theorem bN_bES {m : ME α} {l : α → Sl → MS} : bindN (bindES m l) k = bindES m fun a ρ => bindN (l a ρ) k := M.ext fun μ P => by
  unfold bindN bindES
  simp only [wp_bind]
  congr 1
  funext r μ1
  obtain ⟨f, ρ⟩ := r
  cases f <;> rfl

@[simp ↓] theorem bE_bE {k : α → Sl → ME β} {m : ME α} {l : β → Sl → ME γ} : bindE (bindE m k) l = bindE m fun a ρ => bindE (k a ρ) l := M.ext fun μ P => by
  unfold bindE
  simp only [wp_bind]
  congr 1
  funext r μ1
  obtain ⟨f, ρ⟩ := r
  cases f <;> rfl

@[simp ↓] theorem bES_bE {k : α → Sl → ME β} {m : ME α} {l : β → Sl → MS} : bindES (bindE m k) l = bindES m fun a ρ => bindES (k a ρ) l := M.ext fun μ P => by
  unfold bindES bindE
  simp only [wp_bind]
  congr 1
  funext r μ1
  obtain ⟨f, ρ⟩ := r
  cases f <;> rfl

@[simp ↓] theorem put_v {a : α} : put (M.one (.v a)) ρ = ok a ρ := rfl

@[simp ↓] theorem put_x : put (M.one (.x e)) ρ = (er e ρ : ME α) := rfl

@[simp ↓] theorem put_val : put (val s) ρ = ok s ρ := rfl

@[simp ↓] theorem put_exn : put (exn e) ρ = er e ρ := rfl

@[simp ↓] theorem put_bind {m : M γ} {f : γ → M (Oc α)} : put (m.bind f) ρ = m.bind fun x => put (f x) ρ := rfl

@[simp ↓] theorem put_req {m : M (Oc α)} {p : Prop} : put (m.req p) ρ = (put m ρ).req p := rfl

@[simp ↓] theorem put_bad : put (M.bad : M (Oc α)) ρ = M.bad := rfl

@[simp ↓] theorem put_ite {m n : M (Oc α)} : put (if c then m else n) ρ = if c then put m ρ else put n ρ := by split <;> rfl

@[simp ↓] theorem putM_v {a : α} : putM (M.one a) ρ = ok a ρ := rfl

@[simp ↓] theorem putM_bind {m : M γ} {f : γ → M α} : putM (m.bind f) ρ = m.bind fun x => putM (f x) ρ := rfl

@[simp ↓] theorem putM_req {m : M α} {p : Prop} : putM (m.req p) ρ = (putM m ρ).req p := rfl

@[simp ↓] theorem putM_bad : putM (M.bad : M α) ρ = M.bad := rfl

@[simp ↓] theorem putM_ite {m n : M α} : putM (if c then m else n) ρ = if c then putM m ρ else putM n ρ := by split <;> rfl

@[simp ↓] theorem bE_any {p : α → Prop} {k : α → Sl → ME β} : bindE (putM (M.any p) ρ) k = (M.any p).bind fun a => k a ρ := rfl

@[simp ↓] theorem bES_any {p : α → Prop} {k : α → Sl → MS} : bindES (putM (M.any p) ρ) k = (M.any p).bind fun a => k a ρ := rfl

@[simp ↓] theorem out_nx : out (nx ρ) = val (.d .non) := rfl

@[simp ↓] theorem out_rt : out (rt s) = val s := rfl

@[simp ↓] theorem out_ex : out (ex e ρ) = exn e := rfl

@[simp ↓] theorem out_bk : out (bk ρ) = M.bad := rfl

@[simp ↓] theorem out_ct : out (ct ρ) = M.bad := rfl

@[simp ↓] theorem out_bind {m : M γ} {f : γ → MS} : out (m.bind f) = m.bind fun x => out (f x) := rfl

@[simp ↓] theorem out_req {m : MS} {p : Prop} : out (m.req p) = (out m).req p := rfl

@[simp ↓] theorem out_bad : out M.bad = M.bad := rfl

@[simp ↓] theorem out_ite {m n : MS} : out (if c then m else n) = if c then out m else out n := by split <;> rfl

@[simp] theorem wp_val {μ : Mem} {P : Oc S → Mem → Prop} : (val s).wp μ P = P (.v s) μ := rfl

@[simp] theorem wp_exn {μ : Mem} {P : Oc S → Mem → Prop} : (exn e).wp μ P = P (.x e) μ := rfl

@[simp] theorem wp_nx {μ : Mem} {P : Fl × Sl → Mem → Prop} : (nx ρ).wp μ P = P (.nx, ρ) μ := rfl

@[simp] theorem wp_rt {μ : Mem} {P : Fl × Sl → Mem → Prop} : (rt s).wp μ P = P (.rt s, []) μ := rfl

@[simp] theorem wp_bk {μ : Mem} {P : Fl × Sl → Mem → Prop} : (bk ρ).wp μ P = P (.bk, ρ) μ := rfl

@[simp] theorem wp_ct {μ : Mem} {P : Fl × Sl → Mem → Prop} : (ct ρ).wp μ P = P (.ct, ρ) μ := rfl

@[simp] theorem wp_ex {μ : Mem} {P : Fl × Sl → Mem → Prop} : (ex e ρ).wp μ P = P (.ex e, ρ) μ := rfl

@[simp] theorem wp_ok {a : α} {μ : Mem} {P : Oc α × Sl → Mem → Prop} : (ok a ρ).wp μ P = P (.v a, ρ) μ := rfl

end

section

variable {f : Mem → ME α} {k : α → Sl → ME β} {g : Mem → Mem} {ρ : Sl}

@[simp ↓] theorem bE_ask : bindE (M.ask f) k = M.ask fun μ => bindE (f μ) k := rfl

@[simp ↓] theorem bE_upd {m : ME α} : bindE (M.upd g m) k = M.upd g (bindE m k) := rfl

@[simp ↓] theorem bES_ask {k : α → Sl → MS} : bindES (M.ask f) k = M.ask fun μ => bindES (f μ) k := rfl

@[simp ↓] theorem bES_upd {m : ME α} {k : α → Sl → MS} : bindES (M.upd g m) k = M.upd g (bindES m k) := rfl

@[simp ↓] theorem bN_ask {f : Mem → MS} {k : Sl → MS} : bindN (M.ask f) k = M.ask fun μ => bindN (f μ) k := rfl

@[simp ↓] theorem bN_upd {m : MS} {k : Sl → MS} : bindN (M.upd g m) k = M.upd g (bindN m k) := rfl

@[simp ↓] theorem put_ask {f : Mem → M (Oc α)} : put (M.ask f) ρ = M.ask fun μ => put (f μ) ρ := rfl

@[simp ↓] theorem put_upd {m : M (Oc α)} : put (M.upd g m) ρ = M.upd g (put m ρ) := rfl

@[simp ↓] theorem putM_ask {f : Mem → M α} : putM (M.ask f) ρ = M.ask fun μ => putM (f μ) ρ := rfl

@[simp ↓] theorem putM_upd {m : M α} : putM (M.upd g m) ρ = M.upd g (putM m ρ) := rfl

@[simp ↓] theorem out_ask {f : Mem → MS} : out (M.ask f) = M.ask fun μ => out (f μ) := rfl

@[simp ↓] theorem out_upd {m : MS} : out (M.upd g m) = M.upd g (out m) := rfl

end

/-! ### back to the readings -/

def tw (m : EM α) : ZK → Rho → (α → Rho → Prop) → Prop := fun Z ρ R => (m ρ.sl).wp ρ.mm fun r μ => r.1.elim (fun a => R a ⟨r.2, μ⟩) fun e => Z e ⟨r.2, μ⟩

def flC (E : DEnds) (r : Fl × Sl) (μ : Mem) : Prop := match r.1 with
  | .nx => E.nx ⟨r.2, μ⟩
  | .bk => E.bk ⟨r.2, μ⟩
  | .ct => E.ct ⟨r.2, μ⟩
  | .rt s => E.rt s μ
  | .ex e => E.ex e ⟨r.2, μ⟩

def ts (m : SM) : WS := fun E ρ => (m ρ.sl).wp ρ.mm (flC E)

def tf (f : List D → M (Oc S)) : WF := fun Z ds μ R => (f ds).wp μ fun r μ' => r.elim (fun s => R s μ') fun e => Z e μ'

theorem tw_bind {m : ME α} {k : α → Sl → ME β} {μ : Mem} {P : Oc β × Sl → Mem → Prop} : (bindE m k).wp μ P = m.wp μ fun r μ1 => r.1.elim (fun a => (k a r.2).wp μ1 P) fun e => P (.x e, r.2) μ1 := by
  unfold bindE
  rw [wp_bind]
  congr 1
  funext ⟨r, ρ⟩ μ1
  cases r <;> rfl

theorem tES_bind {m : ME α} {k : α → Sl → MS} {μ : Mem} {P : Fl × Sl → Mem → Prop} : (bindES m k).wp μ P = m.wp μ fun r μ1 => r.1.elim (fun a => (k a r.2).wp μ1 P) fun e => P (.ex e, r.2) μ1 := by
  unfold bindES
  rw [wp_bind]
  congr 1
  funext ⟨r, ρ⟩ μ1
  cases r <;> rfl

theorem tN_bind {m : MS} {k : Sl → MS} {E : DEnds} {μ : Mem} : (bindN m k).wp μ (flC E) = m.wp μ (flC { E with nx := fun ρ => (k ρ.sl).wp ρ.mm (flC E) }) := by
  unfold bindN
  rw [wp_bind]
  congr 1
  funext ⟨r, ρ⟩ μ1
  cases r <;> rfl

theorem twE {m : ME α} {k : α → Sl → ME β} {Z : ZK} {μ : Mem} {R : β → Rho → Prop} : (bindE m k).wp μ (fun r μ => r.1.elim (fun a => R a ⟨r.2, μ⟩) fun e => Z e ⟨r.2, μ⟩) = m.wp μ fun r μ => r.1.elim (fun a => (k a r.2).wp μ (fun r μ => r.1.elim (fun a => R a ⟨r.2, μ⟩) fun e => Z e ⟨r.2, μ⟩)) fun e => Z e ⟨r.2, μ⟩ := by
  rw [tw_bind]; rfl

theorem twS {m : ME α} {k : α → Sl → MS} {E : DEnds} {μ : Mem} : (bindES m k).wp μ (flC E) = m.wp μ fun r μ => r.1.elim (fun a => (k a r.2).wp μ (flC E)) fun e => E.ex e ⟨r.2, μ⟩ := by
  rw [tES_bind]; rfl

theorem tw_putM {m : M α} {ρ : Sl} {Z : ZK} {μ : Mem} {R : α → Rho → Prop} : (putM m ρ).wp μ (fun r μ => r.1.elim (fun a => R a ⟨r.2, μ⟩) fun e => Z e ⟨r.2, μ⟩) = m.wp μ fun a μ => R a ⟨ρ, μ⟩ := rfl

theorem tw_put {m : M (Oc α)} {ρ : Sl} {Z : ZK} {μ : Mem} {R : α → Rho → Prop} : (put m ρ).wp μ (fun r μ => r.1.elim (fun a => R a ⟨r.2, μ⟩) fun e => Z e ⟨r.2, μ⟩) = m.wp μ fun r μ => r.elim (fun a => R a ⟨ρ, μ⟩) fun e => Z e ⟨ρ, μ⟩ := rfl

theorem ts_out {m : MS} {μ : Mem} {R : S → Mem → Prop} {Z : Exn → Mem → Prop} : (out m).wp μ (fun r μ => r.elim (fun s => R s μ) fun e => Z e μ) = m.wp μ (flC ⟨fun ρ => R (.d .non) ρ.mm, R, fun _ => False, fun _ => False, fun x ρ => Z x ρ.mm⟩) := by
  unfold out
  rw [wp_bind]
  congr 1
  funext ⟨r, ρ⟩ μ1
  cases r <;> rfl

end DL







/-! ML2: the constructs as computations: expressions. -/

namespace DL

open PySem PySem.Spec L2

def QE (X : Cx) (G : Gx) (T : WX) (e : Expr) (m : EM S) : Prop := DE X G T e (tw m)

def QT (X : Cx) (G : Gx) (T : WX) (e : Expr) (m : EM Bool) : Prop := DT X G T e (tw m)

def QW (X : Cx) (G : Gx) (T : WX) (e : Expr) (m : EM Bool) : Prop := DW X G T e (tw m)

def QA (X : Cx) (G : Gx) (T : WX) (es : List Expr) (m : EM (List D)) : Prop := DA X G T es (tw m)

def QK (X : Cx) (G : Gx) (T : WX) (es : List Keyword) (m : EM (List D)) : Prop := DK X G T es (tw m)

def QO (X : Cx) (G : Gx) (T : WX) (e : Option Expr) (m : EM (Option Int)) : Prop := DO X G T e (tw m)

def QI (X : Cx) (G : Gx) (T : WX) (tg it : Expr) (m : EM (List D)) : Prop := DI X G T tg it (tw m)

def QTs (X : Cx) (G : Gx) (T : WX) (ifs : List Expr) (m : EM Bool) : Prop := DTs X G T ifs (tw m)

section

variable {X : Cx} {G : Gx} {T : WX} {e a b c : Expr} {pos p p2 apos cpos : Pos} {es rest : List Expr}

theorem lE_mono {K : PySem.W.Frag} {w w' : WE} (i : ∀ Z ρ R, w' Z ρ R → w Z ρ R) {σ : L2.St} {H : Hp} {Q : VK} (h : lE K G T w' σ H Q) : lE K G T w σ H Q := by
  obtain ⟨W, ρ, R, Z, ok, h, r⟩ := h
  exact ⟨W, ρ, R, Z, ok, i _ _ _ h, r⟩

theorem de_mono {w w' : WE} (h : DE X G T e w) (i : ∀ Z ρ R, w' Z ρ R → w Z ρ R) : DE X G T e w' := pe_weak h fun σ H Q q => lE_mono i q

/-! ### slots, constants -/

def mVar (i : Nat) : EM S := fun ρ => match ρ[i]? with
  | some (some d) => ok (.d d.frz) (if d.isOwn = true then ρ.set i (some (.d d.frz)) else ρ)
  | _ => M.bad

theorem qe_var (i : Nat) {x : Str} (hN : X.N[i]? = some x := by rfl) (hv : Vis X.env.scope x := by first | exact Or.inl rfl | exact Or.inr (Or.inl rfl) | exact Or.inr (Or.inr rfl)) (hd : (x == ("__debug__" : Str)) = false := by decide)
    (hcd : (x == ("__classdict__" : Str)) = false := by decide) : QE X G T (.Name x pos) (mVar i) :=
  de_mono (de_var i hN hv hd hcd) fun Z ρ R h => by
    unfold tw mVar at h
    unfold wVar
    split at h
    · rename_i d e
      try rw [e]
      cases q : d.isOwn <;> simpa [q, Rho.set] using h
    · exact False.elim h

def mC (d : D) : EM S := fun ρ => ok (.d d) ρ

theorem qe_int {i j} : QE X G T (.Constant (.int i) j pos) (mC (.int i)) := de_int

theorem qe_bl {i j} : QE X G T (.Constant (.bool i) j pos) (mC (.bl i)) := de_bl

theorem qe_non {j} : QE X G T (.Constant .none j pos) (mC .non) := de_non

theorem qe_str {i j} : QE X G T (.Constant (.str i) j pos) (mC (.str i)) := de_str

theorem qe_bty {x : Str} {n : String} (hg : Gl X x) (hm : X.mg x = none) (hv : bootBuiltins x = some (.type n)) (hn : x ≠ "__name__" := by decide) (hd : (x == ("__debug__" : Str)) = false := by decide) : QE X G T (.Name x pos) (mC (.v (.ty n))) := de_bty hg hm hv hn hd

theorem qe_gint {x : Str} {i : Int} {pos : Pos} (hm : ∃ t, X.mg x = some (.int i t)) (hg : Gl X x := by rfl) (hd : (x == ("__debug__" : Str)) = false := by decide) : QE X G T (.Name x pos) (mC (.int i)) := de_gintE hm hg hd

theorem qe_gstr {x : Str} {i : Str} {pos : Pos} (hm : ∃ t, X.mg x = some (.str i t)) (hg : Gl X x := by rfl) (hd : (x == ("__debug__" : Str)) = false := by decide) : QE X G T (.Name x pos) (mC (.str i)) := de_gstrE hm hg hd

/-! ### operators -/

def mBin (f : D → D → (S → Prop) → Prop) (ma mb : EM S) : EM S := fun ρ => bindE (ma ρ) fun x ρ1 => bindE (mb ρ1) fun y ρ2 => putM (M.lift (f x.frz y.frz)) ρ2

/-- made monotone -/
def mcl {α : Type} (f : (α → Prop) → Prop) (P : α → Prop) : Prop := ∃ R, f R ∧ ∀ a, R a → P a

abbrev mc2 (f : D → D → (S → Prop) → Prop) : D → D → (S → Prop) → Prop := fun d e R => mcl (f d e) R

abbrev mc1 (f : D → (S → Prop) → Prop) : D → (S → Prop) → Prop := fun d R => mcl (f d) R

abbrev mcA (f : List D → (S → Prop) → Prop) : List D → (S → Prop) → Prop := fun d R => mcl (f d) R

theorem od_mc {K : PySem.W.Frag} {r : R2} {f : D → D → (S → Prop) → Prop} (h : OpD K r f) : OpD K r (mc2 f) :=
  fun G W ρ σ H d e x y R Q ok a b ⟨R0, f0, i⟩ k => h G W ρ σ H d e x y R0 Q ok a b f0 fun z W' v H' hz => k z W' v H' (i z hz)

theorem ud_mc {K : PySem.W.Frag} {r : V → Hp → VK → Prop} {f : D → (S → Prop) → Prop} (h : UnD K r f) : UnD K r (mc1 f) :=
  fun G W ρ σ H d x R Q ok a ⟨R0, f0, i⟩ k => h G W ρ σ H d x R0 Q ok a f0 fun z W' v H' hz => k z W' v H' (i z hz)

theorem cd_mc {K : PySem.W.Frag} {r : List V → Hp → VK → Prop} {f : List D → (S → Prop) → Prop} (h : CaD K r f) : CaD K r (mcA f) :=
  fun G W ρ σ H d x R Q ok a ⟨R0, f0, i⟩ k => h G W ρ σ H d x R0 Q ok a f0 fun z W' v H' hz => k z W' v H' (i z hz)

variable {ma mb mc : EM S}

theorem tw_bin {f : D → D → (S → Prop) → Prop} : tw (mBin f ma mb) = wBin (mc2 f) (tw ma) (tw mb) := by
  funext Z ρ R
  simp only [tw, mBin, twE, tw_putM]; rfl

theorem qe_op {op : Operator} {r : R2} {f : D → D → (S → Prop) → Prop} (hr : OpR X (binaryOp op) r) (ho : OpD X.K r f) (ha : QE X G T a ma) (hb : QE X G T b mb) : QE X G T (.BinOp a op b pos) (mBin f ma mb) := by
  unfold QE; rw [tw_bin]; exact de_op hr (od_mc ho) ha hb

theorem qe_cmp {op : CmpOp} {r : R2} {f : D → D → (S → Prop) → Prop} (hr : OpR X (compareOp op) r) (ho : OpD X.K r f) (ha : QE X G T a ma) (hb : QE X G T b mb) (hm : behindInMarks op b = false) : QE X G T (.Compare a [op] [b] pos) (mBin f ma mb) := by
  unfold QE; rw [tw_bin]; exact de_cmp hr (od_mc ho) ha hb hm

def asB (s : S) (ρ : Sl) : ME Bool := match s with
  | .d (.bl b) => ok b ρ
  | _ => M.bad

@[simp ↓] theorem asB_bl {b : Bool} {ρ : Sl} : asB (.d (.bl b)) ρ = ok b ρ := rfl

def mB (m : EM S) : EM Bool := fun ρ => bindE (m ρ) asB

theorem wp_asB {s : S} {ρ : Sl} {Z : ZK} {μ : Mem} {R : Bool → Rho → Prop} : (asB s ρ).wp μ (fun r μ => r.1.elim (fun a => R a ⟨r.2, μ⟩) fun e => Z e ⟨r.2, μ⟩) = s.isB fun b => R b ⟨ρ, μ⟩ := by
  cases s with
  | d d => cases d <;> rfl
  | _ => rfl

theorem wp_asBP {s : S} {ρ : Sl} {μ : Mem} {P : Oc Bool × Sl → Mem → Prop} : (asB s ρ).wp μ P = s.isB fun b => P (.v b, ρ) μ := by
  cases s with
  | d d => cases d <;> rfl
  | _ => rfl

theorem tw_B : tw (mB ma) = wB (tw ma) := by
  funext Z ρ R
  simp only [tw, mB, twE, wp_asB]; rfl

theorem qt_val (h : QE X G T e ma) (he : ∀ whole, isTrue e X.env whole = (do let v ← whole; standAt e.pos; holding [v] (truthy v)) := by intro _; rfl) : QT X G T e (mB ma) := by
  unfold QT; rw [tw_B]; exact dt_val h he

theorem qt_cmp {op : CmpOp} {r : R2} {f : D → D → (S → Prop) → Prop} (hr : OpR X (compareOp op) r) (ho : OpD X.K r f) (ha : QE X G T a ma) (hb : QE X G T b mb) (hm : behindInMarks op b = false) : QT X G T (.Compare a [op] [b] pos) (mB (mBin f ma mb)) := by
  unfold QT; rw [tw_B, tw_bin]; exact dt_cmp hr (od_mc ho) ha hb hm

def mChain (f f' : D → D → (S → Prop) → Prop) (ma mb mc : EM S) : EM S := fun ρ => bindE (ma ρ) fun x ρ1 => bindE (mb ρ1) fun y ρ2 => bindE (putM (M.lift (f x.frz y.frz)) ρ2) fun z ρ2 => bindE (asB z ρ2) fun k ρ2 =>
  if k = true then bindE (mc ρ2) fun u ρ3 => putM (M.lift (f' y.frz u.frz)) ρ3 else ok (.d (.bl false)) ρ2

theorem wp_putME {α : Type} {m : M α} {ρ : Sl} {μ : Mem} {P : Oc α × Sl → Mem → Prop} : (putM m ρ).wp μ P = m.wp μ fun a μ => P (.v a, ρ) μ := rfl

theorem tw_chain {f f' : D → D → (S → Prop) → Prop} : tw (mChain f f' ma mb mc) = wChain (mc2 f) (mc2 f') (tw ma) (tw mb) (tw mc) := by
  funext Z ρ R
  simp only [tw, mChain, twE, tw_putM, wp_putME, wp_asBP, oc_v, wp_ite]; rfl

theorem qt_chain {op op' : CmpOp} {r r' : R2} {f f' : D → D → (S → Prop) → Prop} (hr : OpR X (compareOp op) r) (hr' : OpR X (compareOp op') r') (ho : OpD X.K r f) (ho' : OpD X.K r' f') (ha : QE X G T a ma) (hb : QE X G T b mb) (hc : QE X G T c mc)
    (hm : lastMarks [op, op'] [b, c] = false := by with_unfolding_all rfl) : QT X G T (.Compare a [op, op'] [b, c] pos) (mB (mChain f f' ma mb mc)) := by
  unfold QT; rw [tw_B, tw_chain]; exact dt_chain hr hr' (od_mc ho) (od_mc ho') ha hb hc hm

/-! ### and, or, not -/

variable {t u : EM Bool}

def mAnd (t u : EM Bool) : EM Bool := fun ρ => bindE (t ρ) fun c ρ1 => if c = true then u ρ1 else ok false ρ1

def mOr (t u : EM Bool) : EM Bool := fun ρ => bindE (t ρ) fun c ρ1 => if c = true then ok true ρ1 else u ρ1

def mNot (t : EM Bool) : EM Bool := fun ρ => bindE (t ρ) fun c ρ1 => ok (!c) ρ1

theorem QW.pt (h : QW X G T e t) : QT X G T e t := DW.pt h

theorem qw_and1 (h : QT X G T a t) : QW X G T (.BoolOp .And [a] pos) t := dw_and1 h

theorem qw_or1 (h : QT X G T a t) : QW X G T (.BoolOp .Or [a] pos) t := dw_or1 h

theorem tw_and : tw (mAnd t u) = wAnd (tw t) (tw u) := by
  funext Z ρ R
  simp only [tw, mAnd, twE, wp_ite]; rfl

theorem tw_or : tw (mOr t u) = wOr (tw t) (tw u) := by
  funext Z ρ R
  simp only [tw, mOr, twE, wp_ite]; rfl

theorem tw_not : tw (mNot t) = wNot (tw t) := by
  funext Z ρ R
  simp only [tw, mNot, twE]; rfl

theorem qw_and (ha : QT X G T a t) (hb : QW X G T (.BoolOp .And (b :: rest) pos) u) : QW X G T (.BoolOp .And (a :: b :: rest) pos) (mAnd t u) := by
  unfold QW; rw [tw_and]; exact dw_and ha hb

theorem qw_or (ha : QT X G T a t) (hb : QW X G T (.BoolOp .Or (b :: rest) pos) u) : QW X G T (.BoolOp .Or (a :: b :: rest) pos) (mOr t u) := by
  unfold QW; rw [tw_or]; exact dw_or ha hb

theorem qt_not (ha : QT X G T a t) : QT X G T (.UnaryOp .Not a pos) (mNot t) := by
  unfold QT; rw [tw_not]; exact dt_not ha

def mAndV (ma mb : EM S) : EM S := fun ρ => bindE (ma ρ) fun x ρ1 => bindE (asB x ρ1) fun c ρ1 => if c = true then mb ρ1 else ok (.d (.bl false)) ρ1

def mOrV (ma mb : EM S) : EM S := fun ρ => bindE (ma ρ) fun x ρ1 => bindE (asB x ρ1) fun c ρ1 => if c = true then ok (.d (.bl true)) ρ1 else mb ρ1

def mNotV (ma : EM S) : EM S := fun ρ => bindE (ma ρ) fun x ρ1 => bindE (asB x ρ1) fun c ρ1 => ok (.d (.bl (!c))) ρ1

theorem tw_andV : tw (mAndV ma mb) = wAndV (tw ma) (tw mb) := by
  funext Z ρ R
  simp only [tw, mAndV, twE, wp_ite, wp_asBP, oc_v]; rfl

theorem tw_notV : tw (mNotV ma) = wNotV (tw ma) := by
  funext Z ρ R
  simp only [tw, mNotV, twE, wp_asBP, oc_v]; rfl

theorem qe_one {op} (h : QE X G T a ma) : QE X G T (.BoolOp op [a] pos) ma := de_one h

theorem qe_and (ha : QE X G T a ma) (hb : QE X G T (.BoolOp .And (b :: rest) pos) mb) : QE X G T (.BoolOp .And (a :: b :: rest) pos) (mAndV ma mb) := by
  unfold QE; rw [tw_andV]; exact de_and ha hb

theorem qe_not (ha : QE X G T a ma) : QE X G T (.UnaryOp .Not a pos) (mNotV ma) := by
  unfold QE; rw [tw_notV]; exact de_not ha

def mIfE (t : EM Bool) (ma mb : EM S) : EM S := fun ρ => bindE (t ρ) fun c ρ1 => if c = true then ma ρ1 else mb ρ1

theorem tw_ifE : tw (mIfE t ma mb) = wIfE (tw t) (tw ma) (tw mb) := by
  funext Z ρ R
  simp only [tw, mIfE, twE, wp_ite]; rfl

theorem qe_if {c : Expr} (hc : QT X G T c t) (ha : QE X G T a ma) (hb : QE X G T b mb) : QE X G T (.IfExp c a b pos) (mIfE t ma mb) := by
  unfold QE; rw [tw_ifE]; exact de_if hc ha hb

def mUn (f : D → (S → Prop) → Prop) (ma : EM S) : EM S := fun ρ => bindE (ma ρ) fun x ρ1 => putM (M.lift (f x.frz)) ρ1

theorem tw_un {f : D → (S → Prop) → Prop} : tw (mUn f ma) = wUn (mc1 f) (tw ma) := by
  funext Z ρ R
  simp only [tw, mUn, twE, tw_putM]; rfl

theorem qe_neg (ha : QE X G T a ma) : QE X G T (.UnaryOp .USub a pos) (mUn fNeg ma) := by
  unfold QE; rw [tw_un]; exact pe_weak (pe_un un_neg ha) fun _ _ _ h => lE_un (ud_mc ud_neg) h

theorem qt_isN {j p} (ha : QE X G T a ma) : QT X G T (.Compare a [.Is] [.Constant .none j p] pos) (mB (mUn fIs ma)) := by
  unfold QT; rw [tw_B, tw_un]
  exact pt_weak (pt_cmp (pc_isN ha)) fun σ H Q h => lT_B (t := tIsN (lE X.K G T (tw ma))) (fun Q h => lE_un (K := X.K) (r := fun x H Q => Q (.bl (decide (x = .non))) H) (ud_mc (f := fIs) fun G W ρ σ H d x R Q ok h f k => k _ _ _ _ (dn_non h f) (.refl ok) (.of (.bl _))) h) h

/-! ### argument lists, displays, calls -/

variable {mu mk : EM (List D)}

def mNil : EM (List D) := fun ρ => ok [] ρ

def mCons (m : EM S) (u : EM (List D)) : EM (List D) := fun ρ => bindE (m ρ) fun x ρ1 => bindE (u ρ1) fun xs ρ2 => ok (x.frz :: xs) ρ2

theorem tw_cons : tw (mCons ma mu) = wCons (tw ma) (tw mu) := by
  funext Z ρ R
  simp only [tw, mCons, twE]; rfl

theorem qa_nil : QA X G T [] mNil := da_nil

theorem qa_cons {es : List Expr} (ha : QE X G T a ma) (hr : QA X G T es mu) (hs : starEach (a :: es) X.env = (false, eval a X.env) :: starEach es X.env := by rfl) : QA X G T (a :: es) (mCons ma mu) := by
  unfold QA; rw [tw_cons]; exact da_cons ha hr hs

def mTup (u : EM (List D)) : EM S := fun ρ => bindE (u ρ) fun ds ρ1 => (ok (.d (.tup ds)) ρ1).req (ds.length ≤ sizeLine)

def mLst (u : EM (List D)) : EM S := fun ρ => bindE (u ρ) fun ds ρ1 => (ok (.own ds) ρ1).req (ds.length ≤ sizeLine)

theorem tw_tup : tw (mTup mu) = wTup (tw mu) := by
  funext Z ρ R
  simp only [tw, mTup, twE]; rfl

theorem tw_lst : tw (mLst mu) = wLst (tw mu) := by
  funext Z ρ R
  simp only [tw, mLst, twE]; rfl

theorem qe_tup {es : List Expr} {x1} (h : QA X G T es mu) : QE X G T (.Tuple es x1 pos) (mTup mu) := by
  unfold QE; rw [tw_tup]; exact de_tup h

theorem qe_lst {es : List Expr} (h : QA X G T es mu) : QE X G T (.List es pos) (mLst mu) := by
  unfold QE; rw [tw_lst]; exact de_lst h

def mCallB (f : List D → (S → Prop) → Prop) (u : EM (List D)) : EM S := fun ρ => bindE (u ρ) fun ds ρ1 => putM (M.lift (f ds)) ρ1

theorem tw_callB {f : List D → (S → Prop) → Prop} : tw (mCallB f mu) = wCallB (mcA f) (tw mu) := by
  funext Z ρ R
  simp only [tw, mCallB, twE, tw_putM]; rfl

theorem qe_callB {x : Str} {id : String} {es : List Expr} {r : List V → Hp → VK → Prop} {f : List D → (S → Prop) → Prop} (hr : CallR X (.builtin id) r) (ho : CaD X.K r f) (hg : Gl X x) (hm : X.mg x = none) (hv : bootBuiltins x = some (.builtin id))
    (ha : QA X G T (e :: es) mu) (hn : x ≠ "__name__" := by decide) (hdb : (x == ("__debug__" : Str)) = false := by decide)
    (he : starEach (e :: es) X.env = (false, eval e X.env) :: starEach es X.env := by rfl) (hpl : (backTo pos (starEach es X.env)).any (·.1) = false := by rfl) : QE X G T (.Call (.Name x p) (e :: es) [] pos) (mCallB f mu) := by
  unfold QE; rw [tw_callB]; exact de_callB hr (cd_mc ho) hg hm hv ha hn hdb he hpl

theorem qe_callTy {x : Str} {n : String} {es : List Expr} {r : List V → Hp → VK → Prop} {f : List D → (S → Prop) → Prop} (hr : CallR X (.type n) r) (ho : CaD X.K r f) (hg : Gl X x) (hm : X.mg x = none) (hv : bootBuiltins x = some (.type n))
    (ha : QA X G T (e :: es) mu) (hn : x ≠ "__name__" := by decide) (hdb : (x == ("__debug__" : Str)) = false := by decide)
    (he : starEach (e :: es) X.env = (false, eval e X.env) :: starEach es X.env := by rfl) (hpl : (backTo pos (starEach es X.env)).any (·.1) = false := by rfl) : QE X G T (.Call (.Name x p) (e :: es) [] pos) (mCallB f mu) := by
  unfold QE; rw [tw_callB]; exact de_callTy hr (cd_mc ho) hg hm hv ha hn hdb he hpl

/-- a def of the program -/
abbrev FM := List D → M (Oc S)

def mCall (n : Nat) (f : FM) (u : EM (List D)) : EM S := fun ρ => bindE (u ρ) fun ds ρ1 => (put (f ds) ρ1).req (ds.length = n)

theorem tw_call {n : Nat} {f : FM} : tw (mCall n f mu) = wCall n (tf f) (tw mu) := by
  funext Z ρ R
  simp only [tw, mCall, twE, wp_req, tw_put]; rfl

theorem qe_callD {nps : Nat} {k j : Nat} {ps : List Str} {f : FM} {x : Str} {st : Stmt} {p pos : Pos} {e : Expr} {es : List Expr} (C : CxG X T k) (hG : G.W.g = X.mg) (F : Df X.prog X.w X.K X.mg X.base j x st ps (tf f)) (hj : j ≤ k) (ha : QA X G T (e :: es) mu)
    (hg : Gl X x := by rfl) (hdb : (x == ("__debug__" : Str)) = false := by decide) (he : starEach (e :: es) X.env = (false, eval e X.env) :: starEach es X.env := by rfl) (hpl : (backTo pos (starEach es X.env)).any (·.1) = false := by rfl) (hnps : ps.length = nps := by rfl) :
    QE X G T (.Call (.Name x p) (e :: es) [] pos) (mCall nps f mu) := by
  subst hnps
  unfold QE; rw [tw_call]; exact de_callD C hG F hj ha hg hdb he hpl

theorem qk_nil : QK X G T [] mNil := dk_nil

theorem qk_cons {nm : Option Str} {e : Expr} {kpos : Pos} {kws : List Keyword} (ha : QE X G T e ma) (hr : QK X G T kws mu) : QK X G T (⟨nm, e, kpos⟩ :: kws) (mCons ma mu) := by
  unfold QK; rw [tw_cons]; exact dk_cons ha hr

def mCallK (n n1 n2 : Nat) (is : List Nat) (f : FM) (u uk : EM (List D)) : EM S := fun ρ => bindE (u ρ) fun ds ρ1 => (bindE (uk ρ1) fun es ρ2 => (put (f (permL .non is (ds ++ es))) ρ2).req (es.length = n2 ∧ (permL .non is (ds ++ es)).length = n ∧ ∀ i ∈ is, i < (ds ++ es).length)).req (ds.length = n1)

theorem tw_callK {n n1 n2 : Nat} {is : List Nat} {f : FM} : tw (mCallK n n1 n2 is f mu mk) = wCallK n n1 n2 is (tf f) (tw mu) (tw mk) := by
  funext Z ρ R
  simp only [tw, mCallK, twE, wp_req, tw_put, wCallK, tf, and_assoc]

end

end DL







/-! ML3: the constructs as computations: slots, slices, dicts, statements, loops, comprehensions. -/

namespace DL

open PySem PySem.Spec L2

def QS (X : Cx) (G : Gx) (T : WX) (st : Stmt) (m : SM) : Prop := DS X G T st (ts m)

def QSs (X : Cx) (G : Gx) (T : WX) (st : List Stmt) (m : SM) : Prop := DSs X G T st (ts m)

theorem mcl_mono {α : Type} {f : (α → Prop) → Prop} (h : ∀ R R' : α → Prop, (∀ a, R a → R' a) → f R → f R') {P : α → Prop} : mcl f P = f P :=
  propext ⟨fun ⟨R, q, r⟩ => h R P r q, fun q => ⟨P, q, fun _ z => z⟩⟩

theorem lift_mono {α : Type} {f : (α → Prop) → Prop} (h : ∀ R R' : α → Prop, (∀ a, R a → R' a) → f R → f R') {μ : Mem} {P : α → Mem → Prop} : (M.lift f).wp μ P = f fun a => P a μ := mcl_mono h

def storesS : Sl → List (Nat × D) → Sl
  | ρ, (i, d) :: l => storesS (ρ.set i (some (.d d))) l
  | ρ, [] => ρ

def wipeS (ρ : Sl) : List Nat → Sl
  | [] => ρ
  | i :: is => (wipeS ρ is).set i none

def frzS (ρ : Sl) (i : Nat) : Sl := match ρ[i]? with
  | some (some d) => if d.isOwn = true then ρ.set i (some (.d d.frz)) else ρ
  | _ => ρ

theorem storesR_eq {μ : Mem} : ∀ {l : List (Nat × D)} {ρ : Sl}, storesR ⟨ρ, μ⟩ l = ⟨storesS ρ l, μ⟩
  | [], _ => rfl
  | (i, d) :: l, ρ => storesR_eq (l := l) (ρ := ρ.set i (some (.d d)))

theorem wipeR_eq {μ : Mem} {ρ : Sl} : ∀ {vs : List Nat}, wipeR ⟨ρ, μ⟩ vs = ⟨wipeS ρ vs, μ⟩
  | [] => rfl
  | v :: vs => by rw [wipeR, wipeR_eq (vs := vs)]; rfl

theorem Rho.eq4 {ρ : Rho} {l : List Nat} : wipeR ρ l = ⟨wipeS ρ.sl l, ρ.mm⟩ := wipeR_eq (ρ := ρ.sl) (μ := ρ.mm)

theorem fIx_mono {d e : D} {R R' : S → Prop} (h : ∀ a, R a → R' a) (f : fIx d e R) : fIx d e R' := by
  unfold fIx at *
  split at f
  · obtain ⟨c, f1, f2, f3⟩ := f; exact ⟨c, f1, f2, h _ f3⟩
  · exact ⟨f.1, fun n hn => h _ (f.2 n hn)⟩
  · obtain ⟨ds, x, f1, f2, f3⟩ := f; exact ⟨ds, x, f1, f2, h _ f3⟩
  · exact f.elim

theorem fSl_mono {d : D} {lo hi : Option Int} {R R' : S → Prop} (h : ∀ a, R a → R' a) (f : fSl d lo hi R) : fSl d lo hi R' := by
  cases d <;> first | exact h _ f | exact ⟨f.1, h _ f.2⟩ | exact f.elim

theorem sIx_mono {s : S} {k d : D} {R R' : S → Prop} (h : ∀ a, R a → R' a) (f : sIx s k d R) : sIx s k d R' := by
  unfold sIx at *
  split at f
  · obtain ⟨n, f1, f2⟩ := f; exact ⟨n, f1, h _ f2⟩
  · exact ⟨f.1, f.2.1, h _ f.2.2⟩
  · exact f.elim

theorem rg1_mono {ds : List D} {R R' : List D → Prop} (h : ∀ a, R a → R' a) (f : rg1 ds R) : rg1 ds R' := by
  unfold rg1 at *
  split at f
  · exact ⟨f.1, h _ f.2⟩
  · exact f.elim

theorem rg2_mono {ds : List D} {R R' : List D → Prop} (h : ∀ a, R a → R' a) (f : rg2 ds R) : rg2 ds R' := by
  unfold rg2 at *
  split at f
  · exact ⟨f.1, h _ f.2⟩
  · exact f.elim

theorem rg3_mono {ds : List D} {R R' : List D → Prop} (h : ∀ a, R a → R' a) (f : rg3 ds R) : rg3 ds R' := by
  unfold rg3 at *
  split at f
  · obtain ⟨n, f1, f2⟩ := f; exact ⟨n, f1, h _ f2⟩
  · exact f.elim

theorem fName_mono {i : Nat} {d : D} {R R' : List (Nat × D) → Prop} (h : ∀ a, R a → R' a) (f : fName i d R) : fName i d R' := h _ f

theorem fTupN_mono {is : List Nat} {d : D} {R R' : List (Nat × D) → Prop} (h : ∀ a, R a → R' a) (f : fTupN is d R) : fTupN is d R' := by
  cases d <;> first | exact ⟨f.1, h _ f.2⟩ | exact f.elim

/-- a target, a range: monotone -/
class Mono1 {α β : Type} (f : α → (β → Prop) → Prop) : Prop where
  mono : ∀ {a R R'}, (∀ b, R b → R' b) → f a R → f a R'

instance {i : Nat} : Mono1 (fName i) := ⟨fName_mono⟩

instance {i : List Nat} : Mono1 (fTupN i) := ⟨fTupN_mono⟩

instance : Mono1 rg1 := ⟨rg1_mono⟩

instance : Mono1 rg2 := ⟨rg2_mono⟩

instance : Mono1 rg3 := ⟨rg3_mono⟩

theorem lift_m1 {α β : Type} {f : α → (β → Prop) → Prop} [i : Mono1 f] {a : α} {μ : Mem} {P : β → Mem → Prop} : (M.lift (f a)).wp μ P = f a fun b => P b μ := lift_mono fun _ _ h q => i.mono h q

section

variable {w wa wb wc wk wd : EM S} {u uk : EM (List D)} {t t1 : EM Bool} {v v' : SM} {wl wh : EM (Option Int)} {wi wi1 : EM (List D)}

/-! ### slots that may be own -/

def mIxV (i : Nat) (wk : EM S) : EM S := fun ρ => (bindE (wk ρ) fun k ρ1 => match ρ1[i]? with
  | some (some s) => putM (M.lift (fIx s.frz k.frz)) ρ1
  | _ => M.bad).req (∃ s0, ρ[i]? = some (some s0))

def mLenV (i : Nat) : EM S := fun ρ => match ρ[i]? with
  | some (some s) => putM (M.lift (fLen [s.frz])) ρ
  | _ => M.bad

def mOpV (i : Nat) (f : D → D → (S → Prop) → Prop) (wb : EM S) : EM S := fun ρ => (bindE (wb ρ) fun y ρ1 => match ρ1[i]? with
  | some (some s) => putM (M.lift (f s.frz y.frz)) ρ1
  | _ => M.bad).req (∃ s0, ρ[i]? = some (some s0))

def mOpW (wa : EM S) (i : Nat) (f : D → D → (S → Prop) → Prop) : EM S := fun ρ => bindE (wa ρ) fun x ρ1 => match ρ1[i]? with
  | some (some s) => putM (M.lift (f x.frz s.frz)) ρ1
  | _ => M.bad

theorem tw_ixV {i : Nat} : tw (mIxV i wk) = wIxV i (tw wk) := by
  funext Z ρ R
  simp only [tw, mIxV, twE, wp_req, wIxV]
  congr 2
  funext r μ1
  congr 1
  funext k
  try dsimp only
  generalize r.snd[i]? = o
  rcases o with _ | _ | s
  · rfl
  · rfl
  · exact (tw_putM.trans (lift_mono fun _ _ h q => fIx_mono h q))

/-! ### slices, dicts -/

def mNoP : EM (Option Int) := fun ρ => ok none ρ

def asI (s : S) (ρ : Sl) : ME (Option Int) := match s.frz with
  | .int i => ok (some i) ρ
  | _ => M.bad

@[simp ↓] theorem asI_int {i : Int} {ρ : Sl} : asI (.d (.int i)) ρ = ok (some i) ρ := rfl

def mPart (w : EM S) : EM (Option Int) := fun ρ => bindE (w ρ) asI

def mSl (w : EM S) (wl wh : EM (Option Int)) : EM S := fun ρ => bindE (w ρ) fun d ρ1 => bindE (wl ρ1) fun lo ρ2 => bindE (wh ρ2) fun hi ρ3 => putM (M.lift (fSl d.frz lo hi)) ρ3

theorem tw_noP : tw mNoP = wNoP := rfl

theorem tw_part : tw (mPart w) = wPart (tw w) := by
  funext Z ρ R
  simp only [tw, mPart, twE, wPart]
  congr 1
  funext r μ1
  congr 1
  funext k
  unfold asI
  try dsimp only
  generalize S.frz k = o
  cases o <;> rfl

theorem tw_sl : tw (mSl w wl wh) = wSl (tw w) (tw wl) (tw wh) := by
  funext Z ρ R
  simp only [tw, mSl, twE, wSl, tw_putM, lift_mono fun _ _ h q => fSl_mono h q]

def mDget (i : Nat) (wk : EM S) : EM S := fun ρ => (bindE (wk ρ) fun k ρ1 => match ρ1[i]? with
  | some (some s) => (M.lift (dGet s.frz k.frz)).bind fun z => ok (.d z) ρ1
  | _ => M.bad).req (∃ s0, ρ[i]? = some (some s0))

def mDget2 (i : Nat) (wk wd : EM S) : EM S := fun ρ => (bindE (wk ρ) fun k ρ1 => bindE (wd ρ1) fun z ρ2 => match ρ2[i]? with
  | some (some s) => (M.lift (dGetE s.frz k.frz z.frz)).bind fun z => ok (.d z) ρ2
  | _ => M.bad).req (∃ s0 kvs, ρ[i]? = some (some s0) ∧ s0.frz = .dic kvs)

def mDic0 : EM S := fun ρ => ok (.odic []) ρ

def mDic1 (k v : Int) : EM S := fun ρ => ok (.odic [(.inl k, .int v)]) ρ

theorem tw_dic0 : tw mDic0 = wDic0 := rfl

/-! ### statements -/

def mNext : SM := fun ρ => nx ρ

def mBrk : SM := fun ρ => bk ρ

def mCnt : SM := fun ρ => ct ρ

def mNever : SM := fun _ => M.bad

def mSeq (u v : SM) : SM := fun ρ => bindN (u ρ) v

def mDrop (w : EM S) : SM := fun ρ => bindES (w ρ) fun _ ρ' => nx ρ'

def mRet (w : EM S) : SM := fun ρ => bindES (w ρ) fun s _ => rt s

def mRetN : SM := fun _ => rt (.d .non)

def mIf (t : EM Bool) (u v : SM) : SM := fun ρ => bindES (t ρ) fun c ρ1 => if c = true then u ρ1 else v ρ1

def mSet (i : Nat) (w : EM S) : SM := fun ρ => bindES (w ρ) fun s ρ' => nx (ρ'.set i (some s))

def mPar (i j : Nat) (wa wb : EM S) : SM := fun ρ => bindES (wa ρ) fun x ρ1 => bindES (wb ρ1) fun y ρ2 => nx ((ρ2.set i (some x)).set j (some y))

def mPar3 (i j l : Nat) (wa wb wc : EM S) : SM := fun ρ => bindES (wa ρ) fun x ρ1 => bindES (wb ρ1) fun y ρ2 => bindES (wc ρ2) fun z ρ3 => nx (((ρ3.set i (some x)).set j (some y)).set l (some z))

def mFrz (i : Nat) (u : SM) : SM := fun ρ => u (frzS ρ i)

def mAsgN (f : TgF) (w : EM S) : SM := fun ρ => bindES (w ρ) fun d ρ' => (M.lift (f d.frz)).bind fun l => nx (storesS ρ' l)

def mApp (i : Nat) (w : EM S) : SM := fun ρ => (bindES (w ρ) fun d ρ1 => match ρ1[i]? with
  | some (some (.own ds)) => (nx (ρ1.set i (some (.own (ds ++ [d.frz]))))).req (ds.length < sizeLine)
  | _ => M.bad).req (∃ d0, ρ[i]? = some (some (.own d0)))

def mExt (i : Nat) (w : EM S) : SM := fun ρ => (bindES (w ρ) fun d ρ1 => match ρ1[i]?, d.frz with
  | some (some (.own ds)), .lst es => (nx (ρ1.set i (some (.own (ds ++ es))))).req (ds.length + es.length ≤ sizeLine)
  | _, _ => M.bad).req (∃ d0, ρ[i]? = some (some (.own d0)))

def mSetIx (i : Nat) (wk w : EM S) : SM := fun ρ => bindES (w ρ) fun d ρ1 => (bindES (wk ρ1) fun k ρ2 => match ρ2[i]? with
  | some (some s) => (M.lift (sIx s k.frz d.frz)).bind fun s' => nx (if s.isOwn = true then ρ2.set i (some s') else ρ2)
  | _ => M.bad).req (∃ s0, ρ1[i]? = some (some s0))

def mDput (i : Nat) (wk w : EM S) : SM := fun ρ => bindES (w ρ) fun d ρ1 => (bindES (wk ρ1) fun k ρ2 => match ρ2[i]?, k.frz.key with
  | some (some (.odic kvs)), some κ => (nx (ρ2.set i (some (.odic (putD kvs κ d.frz))))).req (kvs.length < sizeLine)
  | _, _ => M.bad).req (∃ s0, ρ1[i]? = some (some s0))

def mMov (i j : Nat) : SM := fun ρ => match ρ[j]? with
  | some (some s) => nx ((ρ.set j none).set i (some s))
  | _ => M.bad

def mRetV (j : Nat) : SM := fun ρ => match ρ[j]? with
  | some (some s) => rt s
  | _ => M.bad

def mAsgJ (i j : Nat) (k : Int) (w : EM S) : SM := fun ρ => bindES (w ρ) fun d ρ1 => match d.frz with
  | .tup [d1, d2] => ((M.lift (sIx (.d .jar) (.int k) d1)).bind fun _ => nx (ρ1.set j (some (.d d2)))).req (ρ1[i]? = some (some (.d .jar)))
  | _ => M.bad

theorem ts_next : ts mNext = wNext := rfl

theorem ts_seq : ts (mSeq v v') = wSeq (ts v) (ts v') := by
  funext E ρ
  simp only [ts, mSeq, tN_bind]; rfl

theorem ts_drop : ts (mDrop w) = wDrop (tw w) := by
  funext E ρ
  simp only [ts, mDrop, twS]; rfl

theorem ts_ret : ts (mRet w) = wRet (tw w) := by
  funext E ρ
  simp only [ts, mRet, twS]; rfl

theorem ts_if : ts (mIf t v v') = wIf (tw t) (ts v) (ts v') := by
  funext E ρ
  simp only [ts, mIf, twS, wp_ite]; rfl

theorem ts_set {i : Nat} : ts (mSet i w) = wSet i (tw w) := by
  funext E ρ
  simp only [ts, mSet, twS]; rfl

theorem ts_par {i j : Nat} : ts (mPar i j wa wb) = wPar i j (tw wa) (tw wb) := by
  funext E ρ
  simp only [ts, mPar, twS]; rfl

theorem ts_par3 {i j l : Nat} : ts (mPar3 i j l wa wb wc) = wPar3 i j l (tw wa) (tw wb) (tw wc) := by
  funext E ρ
  simp only [ts, mPar3, twS]; rfl

theorem ts_app {i : Nat} : ts (mApp i w) = wApp i (tw w) := by
  funext E ρ
  simp only [ts, mApp, twS, wp_req, wApp]
  congr 2
  funext r μ1
  congr 1
  funext k
  try dsimp only
  generalize r.snd[i]? = o
  rcases o with _ | _ | s <;> first | rfl | (cases s <;> rfl)

theorem ts_setIx {i : Nat} : ts (mSetIx i wk w) = wSetIx i (tw wk) (tw w) := by
  funext E ρ
  simp only [ts, mSetIx, twS, wp_req, wSetIx]
  congr 1
  funext r μ1
  congr 1
  funext k
  congr 2
  funext r μ1
  congr 1
  funext k
  try dsimp only
  generalize r.snd[i]? = o
  rcases o with _ | _ | s
  · rfl
  · rfl
  · refine (wp_bind.trans (lift_mono fun _ _ h q => sIx_mono h q)).trans ?_
    cases q : s.isOwn <;> simp [Rho.set, q] <;> rfl

/-! ### what is walked -/

def asItems (s : S) (ρ : Sl) : ME (List D) := match s.frz.items with
  | some ds => ok ds ρ
  | _ => M.bad

@[simp ↓] theorem asItems_tup {ds : List D} {ρ : Sl} : asItems (.d (.tup ds)) ρ = ok ds ρ := rfl

@[simp ↓] theorem asItems_lst {ds : List D} {ρ : Sl} : asItems (.d (.lst ds)) ρ = ok ds ρ := rfl

@[simp ↓] theorem asItems_rls {ds : List D} {ρ : Sl} : asItems (.d (.rls ds)) ρ = ok ds ρ := rfl

@[simp ↓] theorem asItems_own {ds : List D} {ρ : Sl} : asItems (.own ds) ρ = ok ds ρ := rfl

def mItems (w : EM S) : EM (List D) := fun ρ => bindE (w ρ) asItems

theorem tw_items : tw (mItems w) = wItems (tw w) := by
  funext Z ρ R
  simp only [tw, mItems, twE, wItems]
  congr 1
  funext r μ1
  congr 1
  funext d
  unfold asItems
  try dsimp only
  generalize (S.frz d).items = o
  cases o with
  | some ds =>
    refine propext ⟨fun h => ⟨ds, rfl, h⟩, fun ⟨ds', e', h⟩ => ?_⟩
    cases e'
    exact h
  | none => exact propext ⟨fun q => q.elim, fun ⟨ds, e, _⟩ => nomatch e⟩

def mRng (f : List D → (List D → Prop) → Prop) (u : EM (List D)) : EM (List D) := fun ρ => bindE (u ρ) fun ds ρ' => putM (M.lift (f ds)) ρ'

theorem tw_rng {f : List D → (List D → Prop) → Prop} [Mono1 f] : tw (mRng f u) = wRng f (tw u) := by
  funext Z ρ R
  simp only [tw, mRng, twE, tw_putM, lift_m1]; rfl

def mKeysV (i : Nat) : EM (List D) := fun ρ => match ρ[i]? with
  | some (some (.odic kvs)) => ok (kvs.map fun kv => keyD kv.1) (ρ.set i (some (.ldic kvs)))
  | some (some (.ldic kvs)) => ok (kvs.map fun kv => keyD kv.1) ρ
  | _ => M.bad

/-! ### comprehensions -/

/-- what leaves the slots as they are, and raises nothing -/
def quiet {α : Type} (m : ME α) (ρ : Sl) : M α := m.bind fun r => r.1.elim (fun a => (M.one a).req (r.2 = ρ)) fun _ => M.bad

section

variable {α γ : Type} {ρ : Sl} {a : α}

@[simp ↓] theorem quiet_ok : quiet (ok a ρ) ρ = M.one a := by
  show (M.one a).req (ρ = ρ) = M.one a
  rw [req_of rfl]

@[simp ↓] theorem quiet_bind {m : M γ} {f : γ → ME α} : quiet (m.bind f) ρ = m.bind fun x => quiet (f x) ρ := rfl

@[simp ↓] theorem quiet_req {m : ME α} {p : Prop} : quiet (m.req p) ρ = (quiet m ρ).req p := rfl

@[simp ↓] theorem quiet_bad : quiet (M.bad : ME α) ρ = M.bad := rfl

@[simp ↓] theorem quiet_ite {c : Prop} [Decidable c] {m n : ME α} : quiet (if c then m else n) ρ = if c then quiet m ρ else quiet n ρ := by split <;> rfl

@[simp ↓] theorem quiet_putM {m : M α} : quiet (putM m ρ) ρ = m := M.ext fun μ P => by
  show m.wp μ (fun a μ => ρ = ρ ∧ P a μ) = m.wp μ P
  simp

end

/-- all items of all turns -/
def lcAll {α : Type} (step : α → M (List D)) : List α → M (List D)
  | [] => M.one []
  | d :: ds => (step d).bind fun ys => (lcAll step ds).bind fun zs => M.one (ys ++ zs)

def lcT (f : TgF) (t : EM Bool) (e : EM S) (ρ : Sl) (d : D) : M (List D) := (M.lift (f d)).bind fun l => (quiet (t (storesS ρ l)) (storesS ρ l)).bind fun b =>
  if b = true then (quiet (e (storesS ρ l)) (storesS ρ l)).bind fun y => M.one [y.frz] else M.one []

def noOwnB (ρ : Sl) (vs : List Nat) : Bool := vs.all fun i => match ρ[i]? with
  | some (some d) => !d.isOwn
  | _ => true

def mLc (wi : EM (List D)) (f : TgF) (t : EM Bool) (e : EM S) (vs : List Nat) : EM S := fun ρ => bindE (wi ρ) fun ds ρ1 => ((lcAll (lcT f t e (wipeS ρ1 vs)) ds).bind fun acc => ok (.own acc) ρ1).req (noOwnB ρ1 vs = true ∧ ds.length ≤ sizeLine)

theorem quiet_wp {α : Type} {m : EM α} {ρ : Sl} {μ : Mem} {P : α → Mem → Prop} : (quiet (m ρ) ρ).wp μ P = tw m noZ ⟨ρ, μ⟩ fun a ρ' => ρ'.sl = ρ ∧ P a ρ'.mm := by
  unfold quiet tw
  rw [wp_bind]
  congr 1
  funext ⟨r, ρ'⟩ μ'
  cases r <;> rfl

theorem lcL_of {f : TgF} [Mono1 f] {e : EM S} {ρ : Sl} {R : List D → Mem → Prop} : ∀ {ds acc : List D} {μ : Mem}, acc.length + ds.length ≤ sizeLine → (lcAll (lcT f t e ρ) ds).wp μ (fun zs μ => R (acc ++ zs) μ) → wLcL f (tw t) (tw e) ρ R ds acc μ
  | [], acc, μ, _, h => by
    have h : R (acc ++ []) μ := h
    rw [List.append_nil] at h
    exact h
  | d :: ds, acc, μ, hl, h => by
    rw [lcAll, wp_bind, lcT, wp_bind, lift_m1] at h
    refine Mono1.mono (fun l hl' => ?_) h
    rw [wp_bind, quiet_wp] at hl'
    rw [storesR_eq]
    refine (t _).mono (fun r μ1 hr => ?_) hl'
    obtain ⟨r, ρ'⟩ := r
    cases r with
    | x e => exact hr
    | v b =>
      obtain ⟨e1, hr⟩ := hr
      have e1 : ρ' = storesS ρ l := e1
      subst e1
      refine ⟨rfl, ?_⟩
      rw [List.length_cons] at hl
      cases b with
      | false =>
        simp only [Bool.false_eq_true, if_false] at hr ⊢
        rw [wp_one] at hr
        refine lcL_of (by omega) ?_
        rw [wp_bind] at hr
        exact (lcAll _ ds).mono (fun zs μ hz => by simpa using hz) hr
      | true =>
        simp only [if_true] at hr ⊢
        rw [wp_bind, quiet_wp] at hr
        refine (e _).mono (fun r2 μ2 hr2 => ?_) hr
        obtain ⟨r2, ρ2⟩ := r2
        cases r2 with
        | x e => exact hr2
        | v y =>
          obtain ⟨e2, hr2⟩ := hr2
          rw [wp_one, wp_bind] at hr2
          refine ⟨e2, by omega, lcL_of (by rw [List.length_append, List.length_singleton]; omega) ?_⟩
          exact (lcAll _ ds).mono (fun zs μ hz => by simpa using hz) hr2

theorem noOwn_ofS {ρ : Rho} {vs : List Nat} (h : noOwnB ρ.sl vs = true) : NoOwn ρ vs := fun i hi d e => by
  have := List.all_eq_true.mp h i hi
  rw [e] at this
  simpa using this

theorem tw_lc {f : TgF} [Mono1 f] {e : EM S} {vs : List Nat} {Z : ZK} {ρ : Rho} {R : S → Rho → Prop} (h : tw (mLc wi f t e vs) Z ρ R) : wLc (tw wi) f (tw t) (tw e) vs Z ρ R := by
  simp only [tw, mLc, twE, wp_req, wp_bind] at h
  refine (wi ρ.sl).mono (fun r μ hr => ?_) h
  obtain ⟨r, ρ1⟩ := r
  cases r with
  | x e => exact hr
  | v ds =>
    refine ⟨noOwn_ofS hr.1.1, ?_⟩
    rw [wipeR_eq]
    exact lcL_of (by simpa using hr.1.2) hr.2

/-! ### two fors: the cells stay -/

def quiet0 {α : Type} (m : ME α) (ρ : Sl) : M α := M.ask fun μ0 => m.bind fun r => r.1.elim (fun a => M.ask fun μ1 => (M.one a).req (r.2 = ρ ∧ μ1 = μ0)) fun _ => M.bad

section

variable {α γ : Type} {ρ : Sl} {a : α}

@[simp ↓] theorem quiet0_ok : quiet0 (ok a ρ) ρ = M.one a := M.ext fun μ P => propext ⟨fun h => h.2, fun h => ⟨⟨rfl, rfl⟩, h⟩⟩

@[simp ↓] theorem quiet0_any {p : γ → Prop} {f : γ → ME α} : quiet0 ((M.any p).bind f) ρ = (M.any p).bind fun x => quiet0 (f x) ρ := rfl

@[simp ↓] theorem quiet0_req {m : ME α} {p : Prop} : quiet0 (m.req p) ρ = (quiet0 m ρ).req p := rfl

@[simp ↓] theorem quiet0_bad : quiet0 (M.bad : ME α) ρ = M.bad := rfl

@[simp ↓] theorem quiet0_ite {c : Prop} [Decidable c] {m n : ME α} : quiet0 (if c then m else n) ρ = if c then quiet0 m ρ else quiet0 n ρ := by split <;> rfl

end

/-- the cells must stay -/
def still {α : Type} (m : M α) : M α := M.ask fun μ0 => m.bind fun a => M.ask fun μ1 => (M.one a).req (μ1 = μ0)

section

variable {α γ : Type} {a : α}

@[simp ↓] theorem still_one : still (M.one a) = M.one a := M.ext fun μ P => propext ⟨fun h => h.2, fun h => ⟨rfl, h⟩⟩

@[simp ↓] theorem still_any {p : γ → Prop} {f : γ → M α} : still ((M.any p).bind f) = (M.any p).bind fun x => still (f x) := rfl

@[simp ↓] theorem still_req {m : M α} {p : Prop} : still (m.req p) = (still m).req p := rfl

@[simp ↓] theorem still_bad : still (M.bad : M α) = M.bad := rfl

@[simp ↓] theorem still_ite {c : Prop} [Decidable c] {m n : M α} : still (if c then m else n) = if c then still m else still n := by split <;> rfl

end

def lcT0 (f : TgF) (t : EM Bool) (e : EM S) (ρ : Sl) (d : D) : M (List D) := (M.lift (f d)).bind fun l => (quiet0 (t (storesS ρ l)) (storesS ρ l)).bind fun b =>
  if b = true then (quiet0 (e (storesS ρ l)) (storesS ρ l)).bind fun y => M.one [y.frz] else M.one []

def lcT2 (f : TgF) (t : EM Bool) (wi1 : EM (List D)) (f1 : TgF) (t1 : EM Bool) (e : EM S) (vs1 : List Nat) (ρ : Sl) (d : D) : M (List D) := (M.lift (f d)).bind fun l => (quiet0 (t (storesS ρ l)) (storesS ρ l)).bind fun b =>
  if b = true then (quiet0 (wi1 (storesS ρ l)) (storesS ρ l)).bind fun ds1 => (still (lcAll (lcT0 f1 t1 e (wipeS (storesS ρ l) vs1)) ds1)).req (ds1.length ≤ 2000) else M.one []

def mLc2 (wi : EM (List D)) (f : TgF) (t : EM Bool) (wi1 : EM (List D)) (f1 : TgF) (t1 : EM Bool) (e : EM S) (vs vs1 : List Nat) : EM S := fun ρ => bindE (wi ρ) fun ds ρ1 => ((still (lcAll (lcT2 f t wi1 f1 t1 e vs1 (wipeS ρ1 vs)) ds)).bind fun acc => ok (.own acc) ρ1).req (noOwnB ρ1 vs = true ∧ ds.length ≤ 8000)

end

end DL







/-! ML4: loops that forget what is not asked any more. -/

namespace DL

open PySem PySem.Spec L2

theorem Ok.drops {K : PySem.W.Frag} {G : Gx} {σ : L2.St} {ρ : Rho} {W : Wd} {H : Hp} (ok : Ok K G W ρ σ H) : ∀ vs : List Nat, Ok K G W (wipeR ρ vs) σ H
  | [] => ok
  | v :: vs => (ok.drops vs).drop v

def loopEnd (vs : List Nat) (m : MS) : MS := m.bind fun r => match r.1 with
  | .nx => nx (wipeS r.2 vs)
  | .ct => nx (wipeS r.2 vs)
  | .bk => bk (wipeS r.2 vs)
  | .rt s => rt s
  | .ex e => ex e r.2

def bindL (m : MS) (k : Sl → MS) : MS := m.bind fun r => match r.1 with
  | .nx => k r.2
  | .bk => nx r.2
  | .ct => M.bad
  | .rt s => rt s
  | .ex e => ex e r.2

def turn (f : TgF) (b : SM) (vs : List Nat) (d : D) (ρ : Sl) : MS := (M.lift (f d)).bind fun l => loopEnd vs (b (storesS ρ l))

def forL {α : Type} (step : α → Sl → MS) : List α → Sl → MS
  | [], ρ => nx ρ
  | d :: ds, ρ => bindL (step d ρ) (forL step ds)

def mFor (wi : EM (List D)) (f : TgF) (b : SM) (vs : List Nat) : SM := fun ρ => bindES (wi ρ) fun ds ρ1 => forL (turn f b vs) ds (wipeS ρ1 vs)

section

variable {E : DEnds} {f : TgF} {b : SM} {vs : List Nat} {t : EM Bool}

def wForV (f : TgF) (b : WS) (vs : List Nat) (E : DEnds) : List D → Rho → Prop
  | [] => fun ρ => E.nx ρ
  | d :: ds => fun ρ => f d fun l => b { E with nx := fun ρ' => wForV f b vs E ds (wipeR ρ' vs), ct := fun ρ' => wForV f b vs E ds (wipeR ρ' vs), bk := fun ρ' => E.nx (wipeR ρ' vs) } (storesR ρ l)

theorem wp_loop {m : MS} {k : Sl → MS} {μ : Mem} : (bindL (loopEnd vs m) k).wp μ (flC E) = m.wp μ (flC { E with nx := fun ρ' => (k (wipeR ρ' vs).sl).wp ρ'.mm (flC E), ct := fun ρ' => (k (wipeR ρ' vs).sl).wp ρ'.mm (flC E), bk := fun ρ' => E.nx (wipeR ρ' vs) }) := by
  unfold bindL loopEnd
  simp only [wp_bind]
  congr 1
  funext ⟨r, ρ⟩ μ1
  cases r <;> simp only [flC, wipeR_eq] <;> rfl

theorem forL_wp [Mono1 f] : ∀ {ds : List D} {ρ : Sl} {μ : Mem}, (forL (turn f b vs) ds ρ).wp μ (flC E) = wForV f (ts b) vs E ds ⟨ρ, μ⟩
  | [], ρ, μ => rfl
  | d :: ds, ρ, μ => by
    have e : forL (turn f b vs) (d :: ds) ρ = (M.lift (f d)).bind fun l => bindL (loopEnd vs (b (storesS ρ l))) (forL (turn f b vs) ds) := rfl
    rw [e, wp_bind, lift_m1, wForV]
    simp only [wp_loop, forL_wp, storesR_eq, Rho.eq4]; rfl

end

section

variable {X : Cx} {G : Gx} {T : WX} {pos : Pos}

theorem ds_forV {tg iter : Expr} {body : List Stmt} {wi : WI} {f : TgF} {g : TG} {u : WS} (vs : List Nat) (hp : PassesOwn (model X.prog X.w) X.A X.env X.xe) (hi : DI X G T tg iter wi) (hg : TgtL X tg f g) (hb : DSs X G T body u) (hc : X.calm = true)
    (hs : ∀ x, foldedSetIterable iter X.env x = pure x) : DS X G T (.For tg iter body [] pos) (fun E ρ => wi E.ex ρ fun ds ρ1 => wForV f u vs E ds (wipeR ρ1 vs)) :=
  ps_weak (ps_for hp hc hi hg.1 hb hs) fun D σ H ⟨W, ρ, E, ok, h, hn, hr, hbk, hct, hx⟩ => by
    refine ⟨W, ρ, _, E.ex, ok, h, fun ds ρ1 W1 H1 J h1 g1 it => ?_, hx.z σ ρ⟩
    refine ⟨fun i m σ' H' => ∃ W' ρ', Ok X.K G W' ρ' σ' H' ∧ wForV f u vs E (ds.drop i) ρ' ∧ Le W1 H1 W' H' ∧ m = ds.length - i ∧ i ≤ ds.length, ⟨ds.length, W1, _, g1.ok.drops vs, h1, .refl _ _, rfl, Nat.zero_le _⟩, ?_⟩
    rintro i m σ' H' ⟨W', ρ', ok', h', l, rfl, hle⟩
    obtain ⟨q1, q2⟩ := it i W' H' l ok'.al
    have l0 := g1.stp.le.trans l
    by_cases hi : i < ds.length
    · obtain ⟨d, hd⟩ : ∃ d, ds[i]? = some d := ⟨ds[i], List.getElem?_eq_getElem hi⟩
      obtain ⟨go, yl⟩ := q2 d hd
      rw [List.drop_eq_getElem_cons hi] at h'
      have ed : ds[i] = d := by rw [List.getElem?_eq_getElem hi] at hd; exact Option.some.inj hd
      rw [ed] at h'
      have hN : lN X.K G (fun ρ' => wForV f u vs E (ds.drop (i + 1)) (wipeR ρ' vs)) (fun σ2 H2 => ∃ W2 ρ2, Ok X.K G W2 ρ2 σ2 H2 ∧ wForV f u vs E (ds.drop (i + 1)) ρ2 ∧ Le W1 H1 W2 H2) W' H' := fun ρ2 W2 σ2 H2 q o l2 => ⟨W2, _, o.drops vs, q, l.trans l2⟩
      refine .inr ⟨go, fun σ2 H2 => ∃ W2 ρ2, Ok X.K G W2 ρ2 σ2 H2 ∧ wForV f u vs E (ds.drop (i + 1)) ρ2 ∧ Le W1 H1 W2 H2, ?_, fun x H2 hy => ?_⟩
      · rintro σ2 H2 ⟨W2, ρ2, o, q, l2⟩
        exact ⟨ds.length - (i + 1), by omega, W2, ρ2, o, q, l2, rfl, by omega⟩
      · obtain ⟨W2, st, al2, ⟨ec, kc⟩, hd2⟩ := yl x H2 hy
        have g2 := ok'.grow0 st al2 ec kc
        refine hg.2 W2 H2 x d σ' _ _ hd2 h' fun lst xs hl da => ?_
        have hnd : lN X.K G (fun ρ' => E.nx (wipeR ρ' vs)) D.nx W' H' := fun ρ2 W2 σ2 H2 q o l2 => hn _ W2 σ2 H2 q (o.drops vs) (l0.trans l2)
        exact lS_on (E := { E with nx := fun ρ' => wForV f u vs E (ds.drop (i + 1)) (wipeR ρ' vs), ct := fun ρ' => wForV f u vs E (ds.drop (i + 1)) (wipeR ρ' vs), bk := fun ρ' => E.nx (wipeR ρ' vs) }) (g2.ok.stores da) g2.stp.le hl hN (hr.le l0) hnd hN (hx.le l0)
    · have e : i = ds.length := by omega
      subst e
      rw [List.drop_length] at h'
      exact .inl ⟨q1 (Nat.le_refl _), hn ρ' W' σ' H' h' ok' l0⟩

theorem qs_for {tg iter : Expr} {body : List Stmt} {wi : EM (List D)} {f : TgF} {g : TG} {u : SM} [Mono1 f] (vs : List Nat) (hp : PassesOwn (model X.prog X.w) X.A X.env X.xe) (hi : QI X G T tg iter wi) (hg : TgtL X tg f g) (hb : QSs X G T body u) (hc : X.calm = true := by rfl)
    (hs : ∀ x, foldedSetIterable iter X.env x = pure x := by intro _; rfl) : QS X G T (.For tg iter body [] pos) (mFor wi f u vs) := by
  have e : ts (mFor wi f u vs) = fun E ρ => (tw wi) E.ex ρ fun ds ρ1 => wForV f (ts u) vs E ds (wipeR ρ1 vs) := by
    funext E ρ
    simp only [ts, mFor, twS, forL_wp, Rho.eq4]; rfl
  unfold QS
  rw [e]
  exact ds_forV vs hp hi hg hb hc hs

/-! ### comprehensions of two fors -/

end

end DL







/-! ML5: the rules (printed by mkml5.py). -/

namespace DL

open PySem PySem.Spec L2

theorem lS_mono {K : PySem.W.Frag} {G : Gx} {T : WX} {w w' : WS} (i : ∀ E ρ, w' E ρ → w E ρ) {D : Ends} {σ : L2.St} {H : Hp} (h : lS K G T w' D σ H) : lS K G T w D σ H := by
  obtain ⟨W, ρ, E, ok, h, r⟩ := h
  exact ⟨W, ρ, E, ok, i _ _ h, r⟩

theorem ds_mono {X : Cx} {G : Gx} {T : WX} {st : Stmt} {w w' : WS} (h : DS X G T st w) (i : ∀ E ρ, w' E ρ → w E ρ) : DS X G T st w' := ps_weak h fun D σ H q => lS_mono i q

def mYes : EM Bool := fun ρ => ok true ρ

section

variable {X : Cx} {G : Gx} {T : WX} {a b c e : Expr} {w wa wb wc wk wd : EM S} {u v : SM} {t t1 : EM Bool} {pos p p2 apos cpos tpos : Pos} {st : Stmt} {rest : List Stmt} {i : Nat} {x : Str}

theorem qts_nil : QTs X G T [] mYes := dts_nil

theorem qe_ix (ha : QE X G T a wa) (hb : QE X G T b wb) (hs : PlainIx b := by intro _ _; rfl) : QE X G T (.Subscript a b pos) (mBin fIx wa wb) := by
  unfold QE; rw [tw_bin]
  exact pe_weak (pe_ix ix_seq ha hb hs) fun _ _ _ h => lE_bin (od_mc od_ix) h

theorem fRev_mono {d : D} {R R' : S → Prop} (h : ∀ a, R a → R' a) (f : fRev d R) : fRev d R' := by
  cases d <;> first | exact h _ f | exact f.elim

theorem qe_rev {k : Nat} {p1 p3 : Pos} (he : QE X G T e w) : QE X G T (.Subscript e (.Slice none none (some (.UnaryOp .USub (.Constant (.int 1) k p1) p2)) p3) pos) (mUn fRev w) := by
  unfold QE; rw [tw_un]
  refine de_mono (de_rev he) fun Z ρ R h => ?_
  have e : mc1 fRev = fRev := by
    funext d R
    exact mcl_mono fun _ _ h q => fRev_mono h q
  rw [e] at h
  exact h

theorem fSortedSet_mono {d : List D} {R R' : S → Prop} (h : ∀ a, R a → R' a) (f : fSortedSet d R) : fSortedSet d R' := by
  obtain ⟨ns, e, f1, f2⟩ := f
  exact ⟨ns, e, f1, fun n a b => h _ (f2 n a b)⟩

theorem qs_expr (he : QE X G T e w) (hs : swapsWith e none pos.line X.env = pure false := by rfl) : QS X G T (.Expr e pos) (mDrop w) := by unfold QS; rw [ts_drop]; exact ds_expr he hs

theorem qs_ret (he : QE X G T e w) : QS X G T (.Return (some e) pos) (mRet w) := by unfold QS; rw [ts_ret]; exact ds_ret he

theorem qs_if {c : Expr} {a b : List Stmt} (hc : QT X G T c t) (ha : QSs X G T a u) (hb : QSs X G T b v) : QS X G T (.If c a b pos) (mIf t u v) := by unfold QS; rw [ts_if]; exact ds_if hc ha hb

theorem qs_set {i : Nat} {x : Str} {pos' : Pos} (hN : X.N.Nodup) (he : QE X G T e w) (hi : X.N[i]? = some x := by rfl) (hx : Loc X.env.scope x := by first | exact .inl rfl | exact .inr rfl) (hs : swapsWith e (some (.Name x pos')) pos.line X.env = pure false := by rfl) (hf : X.fn x = true ∨ X.env.scope.names.lookup x = some .local := by first | exact .inr rfl | exact .inl rfl | assumption) :
    QS X G T (.Assign [.Name x pos'] e pos) (mSet i w) := by unfold QS; rw [ts_set]; exact ds_set hN he hi hx hs hf

theorem qs_par {i j : Nat} {x y : Str} {px py pt : Pos} {kt k2 pt2} (hN : X.N.Nodup) (ha : QE X G T a wa) (hb : QE X G T b wb) (hc : X.calm = true := by rfl) (hi : X.N[i]? = some x := by rfl) (hj : X.N[j]? = some y := by rfl) (hij : i ≠ j := by decide)
    (hx : X.env.scope.names.lookup x = some .local := by rfl) (hy : X.env.scope.names.lookup y = some .local := by rfl)
    (hw : swappedStores [.Tuple [.Name x px, .Name y py] kt pt] (.Tuple [a, b] k2 pt2) X.env = pure (some [x, y]) := by rfl)
    (hs : swapsWithSole [.Tuple [.Name x px, .Name y py] kt pt] (.Tuple [a, b] k2 pt2) pos.line X.env = pure false := by rfl)
    (hsa : starEach (a :: [b]) X.env = (false, eval a X.env) :: starEach [b] X.env := by rfl) (hsb : starEach [b] X.env = (false, eval b X.env) :: starEach [] X.env := by rfl) :
    QS X G T (.Assign [.Tuple [.Name x px, .Name y py] kt pt] (.Tuple [a, b] k2 pt2) pos) (mPar i j wa wb) := by unfold QS; rw [ts_par]; exact ds_par hN ha hb hc hi hj hij hx hy hw hs hsa hsb

theorem qs_app (i : Nat) (he : QE X G T e w) (hN : X.N[i]? = some x := by rfl) (hv : Vis X.env.scope x := by first | exact Or.inl rfl | exact Or.inr (Or.inl rfl) | exact Or.inr (Or.inr rfl)) (hd : (x == ("__debug__" : Str)) = false := by decide) (hcd : (x == ("__classdict__" : Str)) = false := by decide)
    (hst : starEach [e] X.env = (false, eval e X.env) :: starEach [] X.env := by rfl)
    (hbase : attributeBase (.Name x p) "append" X.env (eval (.Name x p) X.env) = eval (.Name x p) X.env := by rfl)
    (hfew : ((backTo cpos (starEach (e :: []) X.env)).all (fun x => !x.1) && (backToKw cpos (keywordEach [] X.env)).all (fun x => x.1.isSome) && decide ((e :: []).length + ([] : List Keyword).length + (if ([] : List Keyword).isEmpty then 0 else 1) < 30)) = true := by rfl)
    (hline : (apos.endLine == cpos.line) = true := by rfl) (hs : swapsWith (.Call (.Attribute (.Name x p) "append" apos) [e] [] cpos) none pos.line X.env = pure false := by rfl) :
    QS X G T (.Expr (.Call (.Attribute (.Name x p) "append" apos) [e] [] cpos) pos) (mApp i w) := by unfold QS; rw [ts_app]; exact ds_app i he hN hv hd hcd hst hbase hfew hline hs

theorem qs_setIx (i : Nat) {x : Str} {idx : Expr} {wk : EM S} {tpos : Pos} (he : QE X G T e w) (hk : QE X G T idx wk) (hN : X.N[i]? = some x := by rfl) (hv : Vis X.env.scope x := by first | exact Or.inl rfl | exact Or.inr (Or.inl rfl) | exact Or.inr (Or.inr rfl)) (hd : (x == ("__debug__" : Str)) = false := by decide) (hcd : (x == ("__classdict__" : Str)) = false := by decide)
    (ha : ∀ v, assign (.Subscript (.Name x p) idx tpos) X.env v = (do
      let ov ← holding [v] (eval (.Name x p) X.env)
      let iv ← holding [v, ov] (eval idx X.env)
      standAt tpos
      holding [v, ov, iv] (setItem ov iv v)
      release [v, ov, iv] []) := by intro _; rfl)
    (hs : swapsWithSole [.Subscript (.Name x p) idx tpos] e pos.line X.env = pure false := by rfl) (hw : swappedStores [.Subscript (.Name x p) idx tpos] e X.env = pure none := by rfl)
    (h1 : (assignEach [.Subscript (.Name x p) idx tpos] X.env).map (·.2) = [assign (.Subscript (.Name x p) idx tpos) X.env] := by rfl) :
    QS X G T (.Assign [.Subscript (.Name x p) idx tpos] e pos) (mSetIx i wk w) := by unfold QS; rw [ts_setIx]; exact ds_setIx i he hk hN hv hd hcd ha hs hw h1

theorem qs_par3 {i j l : Nat} {x y z : Str} {px py pz pt : Pos} {kt k2 pt2} (hN : X.N.Nodup) (ha : QE X G T a wa) (hb : QE X G T b wb) (hcc : QE X G T c wc) (hc : X.calm = true := by rfl) (hi : X.N[i]? = some x := by rfl) (hj : X.N[j]? = some y := by rfl) (hl : X.N[l]? = some z := by rfl) (hij : i ≠ j := by decide) (hil : i ≠ l := by decide) (hjl : j ≠ l := by decide)
    (hx : X.env.scope.names.lookup x = some .local := by rfl) (hy : X.env.scope.names.lookup y = some .local := by rfl) (hz : X.env.scope.names.lookup z = some .local := by rfl)
    (hw : swappedStores [.Tuple [.Name x px, .Name y py, .Name z pz] kt pt] (.Tuple [a, b, c] k2 pt2) X.env = pure (some [x, y, z]) := by rfl)
    (hs : swapsWithSole [.Tuple [.Name x px, .Name y py, .Name z pz] kt pt] (.Tuple [a, b, c] k2 pt2) pos.line X.env = pure false := by rfl)
    (hsa : starEach (a :: [b, c]) X.env = (false, eval a X.env) :: starEach [b, c] X.env := by rfl) (hsb : starEach (b :: [c]) X.env = (false, eval b X.env) :: starEach [c] X.env := by rfl) (hsc : starEach [c] X.env = (false, eval c X.env) :: starEach [] X.env := by rfl) :
    QS X G T (.Assign [.Tuple [.Name x px, .Name y py, .Name z pz] kt pt] (.Tuple [a, b, c] k2 pt2) pos) (mPar3 i j l wa wb wc) := by unfold QS; rw [ts_par3]; exact ds_par3 hN ha hb hcc hc hi hj hl hij hil hjl hx hy hz hw hs hsa hsb hsc

theorem qs_parT {i j : Nat} {x y : Str} {px py pt : Pos} {kt k2 pt2} (hN : X.N.Nodup) (ha : QE X G T a wa) (hb : QE X G T b wb) (hg : PGs X [.Name x px, .Name y py] (gNames [i, j])) (hc : X.calm = true := by rfl)
    (hs : swapsWithSole [.Tuple [.Name x px, .Name y py] kt pt] (.Tuple [a, b] k2 pt2) pos.line X.env = pure false := by rfl) (hw : swappedStores [.Tuple [.Name x px, .Name y py] kt pt] (.Tuple [a, b] k2 pt2) X.env = pure none := by rfl)
    (hh : (assignEach [.Tuple [.Name x px, .Name y py] kt pt] X.env).map (·.2) = [assign (.Tuple [.Name x px, .Name y py] kt pt) X.env] := by rfl) (hn : (assignEach [.Name x px, .Name y py] X.env).length = 2 := by rfl) (hst : (assignEach [.Name x px, .Name y py] X.env).findIdx? (·.1) = none := by rfl)
    (hsa : starEach (a :: [b]) X.env = (false, eval a X.env) :: starEach [b] X.env := by rfl) (hsb : starEach [b] X.env = (false, eval b X.env) :: starEach [] X.env := by rfl) :
    QS X G T (.Assign [.Tuple [.Name x px, .Name y py] kt pt] (.Tuple [a, b] k2 pt2) pos) (mPar i j wa wb) := by unfold QS; rw [ts_par]; exact ds_parT hN ha hb hg hc hs hw hh hn hst hsa hsb

theorem qss_nil : QSs X G T [] mNext := by unfold QSs; rw [ts_next]; exact dss_nil 

theorem qss_cons (h1 : QS X G T st u) (h2 : QSs X G T rest v) : QSs X G T (st :: rest) (mSeq u v) := by unfold QSs; rw [ts_seq]; exact dss_cons h1 h2

theorem qss_one (h1 : QS X G T st u) : QSs X G T [st] u := by unfold QSs; exact dss_one h1

theorem qi_seq {tg : Expr} (he : QE X G T e w) : QI X G T tg e (mItems w) := by unfold QI; rw [tw_items]; exact di_seq he

theorem qi_range1 {tg : Expr} {ta : EM (List D)} (ha : QA X G T [a] ta) (hg : Gl X "range") (hm : X.mg "range" = none) (hs : starEach [a] X.env = [(false, eval a X.env)] := by rfl) : QI X G T tg (.Call (.Name "range" p) [a] [] pos) (mRng rg1 ta) := by unfold QI; rw [tw_rng]; exact di_range1 ha hg hm hs

theorem qe_ixV (i : Nat) {x : Str} (hb : QE X G T b wb) (hN : X.N[i]? = some x := by rfl) (hv : Vis X.env.scope x := by first | exact Or.inl rfl | exact Or.inr (Or.inl rfl) | exact Or.inr (Or.inr rfl)) (hd : (x == ("__debug__" : Str)) = false := by decide)
    (hcd : (x == ("__classdict__" : Str)) = false := by decide) (hs : PlainIx b := by intro _ _; rfl) : QE X G T (.Subscript (.Name x p) b pos) (mIxV i wb) := by unfold QE; rw [tw_ixV]; exact de_ixV i hb hN hv hd hcd hs

theorem qe_sl {lo hi : Option Expr} {wl wh : EM (Option Int)} (he : QE X G T e w) (hl : QO X G T lo wl) (hu : QO X G T hi wh) : QE X G T (.Subscript e (.Slice lo hi none p2) pos) (mSl w wl wh) := by unfold QE; rw [tw_sl]; exact de_sl he hl hu

theorem qe_dic0 : QE X G T (.Dict [] [] pos) mDic0 := by unfold QE; rw [tw_dic0]; exact de_dic0 

theorem qo_none : QO X G T none mNoP := by unfold QO; rw [tw_noP]; exact do_none 

theorem qo_some (h : QE X G T e w) : QO X G T (some e) (mPart w) := by unfold QO; rw [tw_part]; exact do_some h

theorem qts_one (h : QT X G T e t) : QTs X G T [e] t := by unfold QTs; exact dts_one h

theorem qe_lc {elt tg iter : Expr} {ifs : List Expr} {scope : Scope} {own : List (Str × Nat)} {wi : EM (List D)} {f : TgF} {g : TG} [Mono1 f] {te : EM S} (hN : X.N.Nodup) (hi : QI X G T tg iter wi) (ok : BlkOk X.N X.env.scope scope own)
    (hg : ∀ (s : Shared) (H : Hp) (C : Addr) (cl : List (Str × Addr)) (fp : List Addr), TgtL (X.blk s H scope (compEnvC scope cl C X.env) fp) tg f g) (hin : TgIn f (own.map (·.2)))
    (ht : ∀ (s : Shared) (H : Hp) (C : Addr) (cl : List (Str × Addr)) (fp : List Addr), QTs (X.blk s H scope (compEnvC scope cl C X.env) fp) G noT ifs t)
    (he : ∀ (s : Shared) (H : Hp) (C : Addr) (cl : List (Str × Addr)) (fp : List Addr), QE (X.blk s H scope (compEnvC scope cl C X.env) fp) G noT elt te) (hc : X.calm = true := by rfl) (hs : ∀ x, foldedSetIterable iter X.env x = pure x := by intro _; rfl) :
    QE X G T (.ListComp elt [⟨tg, iter, ifs, 0⟩] scope pos) (mLc wi f t te (own.map (·.2))) := de_mono (de_lc hN hi ok hg hin ht he hc hs) fun Z ρ R h => tw_lc h

theorem qs_setLc {i : Nat} {y : Str} {py : Pos} {elt tg iter : Expr} {ifs : List Expr} {scope : Scope} {own : List (Str × Nat)} {spos : Pos} {wi : EM (List D)} {f : TgF} {g : TG} [Mono1 f] {te : EM S} (hN : X.N.Nodup) (hi : QI X G T tg iter wi) (ok : BlkOk X.N X.env.scope scope own)
    (hg : ∀ (s : Shared) (H : Hp) (C : Addr) (cl : List (Str × Addr)) (fp : List Addr), TgtL (X.blk s H scope (compEnvC scope cl C X.env) fp) tg f g) (hin : TgIn f (own.map (·.2)))
    (ht : ∀ (s : Shared) (H : Hp) (C : Addr) (cl : List (Str × Addr)) (fp : List Addr), QTs (X.blk s H scope (compEnvC scope cl C X.env) fp) G noT ifs t)
    (he : ∀ (s : Shared) (H : Hp) (C : Addr) (cl : List (Str × Addr)) (fp : List Addr), QE (X.blk s H scope (compEnvC scope cl C X.env) fp) G noT elt te)
    (hsw : swapsWith (.ListComp elt [⟨tg, iter, ifs, 0⟩] scope pos) (some (.Name y py)) spos.line X.env = pure true) (hy : X.N[i]? = some y := by rfl) (hyl : X.env.scope.names.lookup y = some .local := by rfl) (hc : X.calm = true := by rfl)
    (hs : ∀ x, foldedSetIterable iter X.env x = pure x := by intro _; rfl) :
    QS X G T (.Assign [.Name y py] (.ListComp elt [⟨tg, iter, ifs, 0⟩] scope pos) spos) (mSet i (mLc wi f t te (own.map (·.2)))) := ds_mono (ds_setLc hN hi ok hg hin ht he hsw hy hyl hc hs) fun E ρ h => by rw [ts_set] at h; exact tw_lc h

theorem qe_sortedSet {x y : Str} {p2 pos2 : Pos} {u : EM (List D)} (hc : X.calm = true) (hg : Gl X x) (hm : X.mg x = none) (hv : bootBuiltins x = some (.builtin "sorted")) (hg2 : Gl X y) (hm2 : X.mg y = none) (hv2 : bootBuiltins y = some (.type "set")) (ha : QA X G T [e] u)
    (hn : x ≠ "__name__" := by decide) (hdb : (x == ("__debug__" : Str)) = false := by decide) (hn2 : y ≠ "__name__" := by decide) (hdb2 : (y == ("__debug__" : Str)) = false := by decide)
    (he : starEach [.Call (.Name y p2) [e] [] pos2] X.env = (false, eval (.Call (.Name y p2) [e] [] pos2) X.env) :: starEach [] X.env := by rfl) (hpl : (backTo pos (starEach [] X.env)).any (·.1) = false := by rfl)
    (he2 : starEach [e] X.env = (false, eval e X.env) :: starEach [] X.env := by rfl) (hpl2 : (backTo pos2 (starEach [] X.env)).any (·.1) = false := by rfl) :
    QE X G T (.Call (.Name x p) [.Call (.Name y p2) [e] [] pos2] [] pos) (mCallB fSortedSet u) := by
  unfold QE; rw [tw_callB]
  refine de_mono (de_sortedSet hc hg hm hv hg2 hm2 hv2 ha hn hdb hn2 hdb2 he hpl he2 hpl2) fun Z ρ R h => ?_
  have e : mcA fSortedSet = fSortedSet := by
    funext d R
    exact mcl_mono fun _ _ h q => fSortedSet_mono h q
  rw [e] at h
  exact h

end

/-! ### defs -/

/-- a def's reading: its body from the arguments -/
def defM (b : SM) (N : List Str) : FM := fun ds => out (b (sl0 N ds))

theorem df_q {P : Program} {w : World} {K : PySem.W.Frag} {mg : Str → Option Value} {base : Heap} {x : Str} {st : Stmt} {N ps : List Str} {k : Nat} {b : SM} {f : FM} (r : Raw K mg x st) (Sc : FnScope N ps (defScope st))
    (hbi : ∀ (kV doc pm : Value) (an : Option Addr) (cdv ct : Value) (us : List Value), us.length = ps.length → bindArgs (PySem.W.fnOf x x (defArgs st) (defBody st) (defScope st) .none kV doc pm an cdv ct) ⟨us, []⟩ = pure (ps.zip us))
    (hf : ∀ ds, ds.length = ps.length → (defM b N ds).le (f ds))
    (hb : ∀ (f : Addr) (cdv : Value) (A : Around) (outer : List PySem.Env) (s : Shared) (H : Hp) (E : XK) (W : Wd), W.g = mg → CxG (cxOf (L2.CX P w) P w K mg base N x (defScope st) f cdv A outer s H E) (fun cls d _ H => E cls d H) k →
      QSs (cxOf (L2.CX P w) P w K mg base N x (defScope st) f cdv A outer s H E) ⟨W, H⟩ (fun cls d _ H => E cls d H) (defBody st) b) : Df P w K mg base (k + 1) x st ps (tf f) :=
  df_of r Sc hbi (fun Z ds μ R hl h => by
    have q := hf ds hl μ _ h
    unfold defM at q
    rw [ts_out] at q
    exact q) hb

theorem Df.jarM {P : Program} {w : World} {K : PySem.W.Frag} {mg : Str → Option Value} {base : Heap} {k : Nat} {x : Str} {st : Stmt} {ps : List Str} {f f' : FM} (F : Df P w K mg base k x st ps (tf f))
    (h : ∀ ds μ P, ds.length = ps.length → (f' ds).wp μ P → (f ds).wp μ fun r μ => ∃ x y z : Int, r = .v (.own [.int x, .int y, .int z]) ∧ (-(2 ^ 40) < y ∧ y < 2 ^ 40) ∧ P (.v (.d .jar)) μ) : Df P w K mg base k x st ps (tf f') :=
  F.jar fun Z ds μ R hl q => (f ds).mono (fun r μ ⟨x, y, z, e, b, hr⟩ => by subst e; exact ⟨x, y, z, rfl, b, hr⟩) (h ds μ _ hl q)

end DL







/-! ML6: equations by which readings are run. -/

namespace DL

open PySem PySem.Spec L2

section

variable {α β γ : Type} {ρ : Sl} {w wa wb wc wk wd : EM S} {u uk : EM (List D)} {t t1 : EM Bool} {v v' : SM} {wl wh : EM (Option Int)} {wi wi1 : EM (List D)} {i j : Nat}

/-! ### only the first part is run -/

/-! ### slots -/

def varM (o : Option (Option S)) (i : Nat) (ρ : Sl) : ME S := match o with
  | some (some d) => ok (.d d.frz) (if d.isOwn = true then ρ.set i (some (.d d.frz)) else ρ)
  | _ => M.bad

@[simp ↓] theorem m_var : mVar i ρ = varM ρ[i]? i ρ := by
  unfold mVar varM
  generalize ρ[i]? = o
  rcases o with _ | _ | s <;> rfl

@[simp ↓] theorem varM_d {d : D} : varM (some (some (.d d))) i ρ = ok (.d d) ρ := rfl

@[simp ↓] theorem varM_own {d : List D} : varM (some (some (.own d))) i ρ = ok (.d (.lst d)) (ρ.set i (some (.d (.lst d)))) := rfl

@[simp ↓] theorem varM_ldic {d : List (Key × D)} : varM (some (some (.ldic d))) i ρ = ok (.d (.dic d)) ρ := rfl

@[simp ↓] theorem varM_odic {d : List (Key × D)} : varM (some (some (.odic d))) i ρ = ok (.d (.dic d)) (ρ.set i (some (.d (.dic d)))) := rfl

@[simp ↓] theorem m_c {d : D} : mC d ρ = ok (.d d) ρ := rfl

@[simp ↓] theorem m_bin {f : D → D → (S → Prop) → Prop} : mBin f wa wb ρ = bindE (wa ρ) fun x ρ1 => bindE (wb ρ1) fun y ρ2 => putM (M.lift (f x.frz y.frz)) ρ2 := rfl

@[simp ↓] theorem m_un {f : D → (S → Prop) → Prop} : mUn f wa ρ = bindE (wa ρ) fun x ρ1 => putM (M.lift (f x.frz)) ρ1 := rfl

@[simp ↓] theorem m_b : mB w ρ = bindE (w ρ) asB := rfl

@[simp ↓] theorem m_chain {f f' : D → D → (S → Prop) → Prop} : mChain f f' wa wb wc ρ = bindE (wa ρ) fun x ρ1 => bindE (wb ρ1) fun y ρ2 => bindE (putM (M.lift (f x.frz y.frz)) ρ2) fun z ρ2 => bindE (asB z ρ2) fun k ρ2 =>
  if k = true then bindE (wc ρ2) fun u ρ3 => putM (M.lift (f' y.frz u.frz)) ρ3 else ok (.d (.bl false)) ρ2 := rfl

@[simp ↓] theorem m_and : mAnd t t1 ρ = bindE (t ρ) fun c ρ1 => if c = true then t1 ρ1 else ok false ρ1 := rfl

@[simp ↓] theorem m_or : mOr t t1 ρ = bindE (t ρ) fun c ρ1 => if c = true then ok true ρ1 else t1 ρ1 := rfl

@[simp ↓] theorem m_not : mNot t ρ = bindE (t ρ) fun c ρ1 => ok (!c) ρ1 := rfl

@[simp ↓] theorem m_andV : mAndV wa wb ρ = bindE (wa ρ) fun x ρ1 => bindE (asB x ρ1) fun c ρ1 => if c = true then wb ρ1 else ok (.d (.bl false)) ρ1 := rfl

@[simp ↓] theorem m_orV : mOrV wa wb ρ = bindE (wa ρ) fun x ρ1 => bindE (asB x ρ1) fun c ρ1 => if c = true then ok (.d (.bl true)) ρ1 else wb ρ1 := rfl

@[simp ↓] theorem m_notV : mNotV wa ρ = bindE (wa ρ) fun x ρ1 => bindE (asB x ρ1) fun c ρ1 => ok (.d (.bl (!c))) ρ1 := rfl

@[simp ↓] theorem m_ifE : mIfE t wa wb ρ = bindE (t ρ) fun c ρ1 => if c = true then wa ρ1 else wb ρ1 := rfl

@[simp ↓] theorem m_nil : mNil ρ = ok [] ρ := rfl

@[simp ↓] theorem m_cons : mCons w u ρ = bindE (w ρ) fun x ρ1 => bindE (u ρ1) fun xs ρ2 => ok (x.frz :: xs) ρ2 := rfl

@[simp ↓] theorem m_tup : mTup u ρ = bindE (u ρ) fun ds ρ1 => (ok (.d (.tup ds)) ρ1).req (ds.length ≤ sizeLine) := rfl

@[simp ↓] theorem m_lst : mLst u ρ = bindE (u ρ) fun ds ρ1 => (ok (.own ds) ρ1).req (ds.length ≤ sizeLine) := rfl

@[simp ↓] theorem m_callB {f : List D → (S → Prop) → Prop} : mCallB f u ρ = bindE (u ρ) fun ds ρ1 => putM (M.lift (f ds)) ρ1 := rfl

@[simp ↓] theorem m_call {n : Nat} {f : FM} : mCall n f u ρ = bindE (u ρ) fun ds ρ1 => (put (f ds) ρ1).req (ds.length = n) := rfl

@[simp ↓] theorem m_callK {n n1 n2 : Nat} {is : List Nat} {f : FM} : mCallK n n1 n2 is f u uk ρ = bindE (u ρ) fun ds ρ1 => (bindE (uk ρ1) fun es ρ2 => (put (f (permL .non is (ds ++ es))) ρ2).req (es.length = n2 ∧ (permL .non is (ds ++ es)).length = n ∧ ∀ i ∈ is, i < (ds ++ es).length)).req (ds.length = n1) := rfl

def slotM {β : Type} (o : Option (Option S)) (f : S → M β) : M β := match o with
  | some (some s) => f s
  | _ => M.bad

@[simp ↓] theorem slotM_s {β : Type} {s : S} {f : S → M β} : slotM (some (some s)) f = f s := rfl

@[simp ↓] theorem m_ixV : mIxV i wk ρ = (bindE (wk ρ) fun k ρ1 => slotM ρ1[i]? fun s => putM (M.lift (fIx s.frz k.frz)) ρ1).req (∃ s0, ρ[i]? = some (some s0)) := rfl

@[simp ↓] theorem m_lenV : mLenV i ρ = slotM ρ[i]? fun s => putM (M.lift (fLen [s.frz])) ρ := by
  unfold mLenV
  generalize ρ[i]? = o
  rcases o with _ | _ | s <;> rfl

@[simp ↓] theorem m_opV {f : D → D → (S → Prop) → Prop} : mOpV i f wb ρ = (bindE (wb ρ) fun y ρ1 => slotM ρ1[i]? fun s => putM (M.lift (f s.frz y.frz)) ρ1).req (∃ s0, ρ[i]? = some (some s0)) := rfl

@[simp ↓] theorem m_opW {f : D → D → (S → Prop) → Prop} : mOpW wa i f ρ = bindE (wa ρ) fun x ρ1 => slotM ρ1[i]? fun s => putM (M.lift (f x.frz s.frz)) ρ1 := rfl

@[simp ↓] theorem m_noP : mNoP ρ = ok none ρ := rfl

@[simp ↓] theorem m_part : mPart w ρ = bindE (w ρ) asI := rfl

@[simp ↓] theorem m_sl : mSl w wl wh ρ = bindE (w ρ) fun d ρ1 => bindE (wl ρ1) fun lo ρ2 => bindE (wh ρ2) fun hi ρ3 => putM (M.lift (fSl d.frz lo hi)) ρ3 := rfl

@[simp ↓] theorem m_dget : mDget i wk ρ = (bindE (wk ρ) fun k ρ1 => slotM ρ1[i]? fun s => (M.lift (dGet s.frz k.frz)).bind fun z => ok (.d z) ρ1).req (∃ s0, ρ[i]? = some (some s0)) := rfl

@[simp ↓] theorem m_dget2 : mDget2 i wk wd ρ = (bindE (wk ρ) fun k ρ1 => bindE (wd ρ1) fun z ρ2 => slotM ρ2[i]? fun s => (M.lift (dGetE s.frz k.frz z.frz)).bind fun z => ok (.d z) ρ2).req (∃ s0 kvs, ρ[i]? = some (some s0) ∧ s0.frz = .dic kvs) := rfl

@[simp ↓] theorem m_dic0 : mDic0 ρ = ok (.odic []) ρ := rfl

@[simp ↓] theorem m_dic1 {k v : Int} : mDic1 k v ρ = ok (.odic [(.inl k, .int v)]) ρ := rfl

@[simp ↓] theorem m_items : mItems w ρ = bindE (w ρ) asItems := rfl

@[simp ↓] theorem m_rng {f : List D → (List D → Prop) → Prop} : mRng f u ρ = bindE (u ρ) fun ds ρ' => putM (M.lift (f ds)) ρ' := rfl

def keysM (o : Option (Option S)) (i : Nat) (ρ : Sl) : ME (List D) := match o with
  | some (some (.odic kvs)) => ok (kvs.map fun kv => keyD kv.1) (ρ.set i (some (.ldic kvs)))
  | some (some (.ldic kvs)) => ok (kvs.map fun kv => keyD kv.1) ρ
  | _ => M.bad

@[simp ↓] theorem m_keysV : mKeysV i ρ = keysM ρ[i]? i ρ := by
  unfold mKeysV keysM
  generalize ρ[i]? = o
  rcases o with _ | _ | s <;> first | rfl | (cases s <;> rfl)

@[simp ↓] theorem keysM_o {kvs : List (Key × D)} : keysM (some (some (.odic kvs))) i ρ = ok (kvs.map fun kv => keyD kv.1) (ρ.set i (some (.ldic kvs))) := rfl

@[simp ↓] theorem keysM_l {kvs : List (Key × D)} : keysM (some (some (.ldic kvs))) i ρ = ok (kvs.map fun kv => keyD kv.1) ρ := rfl

@[simp ↓] theorem m_yes : mYes ρ = ok true ρ := rfl

@[simp ↓] theorem m_lc {f : TgF} {vs : List Nat} : mLc wi f t w vs ρ = bindE (wi ρ) fun ds ρ1 => ((lcAll (lcT f t w (wipeS ρ1 vs)) ds).bind fun acc => ok (.own acc) ρ1).req (noOwnB ρ1 vs = true ∧ ds.length ≤ sizeLine) := rfl

@[simp ↓] theorem m_lc2 {f f1 : TgF} {vs vs1 : List Nat} : mLc2 wi f t wi1 f1 t1 w vs vs1 ρ = bindE (wi ρ) fun ds ρ1 => ((still (lcAll (lcT2 f t wi1 f1 t1 w vs1 (wipeS ρ1 vs)) ds)).bind fun acc => ok (.own acc) ρ1).req (noOwnB ρ1 vs = true ∧ ds.length ≤ 8000) := rfl

/-! ### statements -/

@[simp ↓] theorem m_next : mNext ρ = nx ρ := rfl

@[simp ↓] theorem m_brk : mBrk ρ = bk ρ := rfl

@[simp ↓] theorem m_cnt : mCnt ρ = ct ρ := rfl

@[simp ↓] theorem m_never : mNever ρ = M.bad := rfl

@[simp ↓] theorem m_seq : mSeq v v' ρ = bindN (v ρ) v' := rfl

@[simp ↓] theorem m_drop : mDrop w ρ = bindES (w ρ) fun _ ρ' => nx ρ' := rfl

@[simp ↓] theorem m_ret : mRet w ρ = bindES (w ρ) fun s _ => rt s := rfl

@[simp ↓] theorem m_retN : mRetN ρ = rt (.d .non) := rfl

@[simp ↓] theorem m_if : mIf t v v' ρ = bindES (t ρ) fun c ρ1 => if c = true then v ρ1 else v' ρ1 := rfl

@[simp ↓] theorem m_set : mSet i w ρ = bindES (w ρ) fun s ρ' => nx (ρ'.set i (some s)) := rfl

@[simp ↓] theorem m_par : mPar i j wa wb ρ = bindES (wa ρ) fun x ρ1 => bindES (wb ρ1) fun y ρ2 => nx ((ρ2.set i (some x)).set j (some y)) := rfl

@[simp ↓] theorem m_par3 {l : Nat} : mPar3 i j l wa wb wc ρ = bindES (wa ρ) fun x ρ1 => bindES (wb ρ1) fun y ρ2 => bindES (wc ρ2) fun z ρ3 => nx (((ρ3.set i (some x)).set j (some y)).set l (some z)) := rfl

def frzO (o : Option (Option S)) (i : Nat) (ρ : Sl) : Sl := match o with
  | some (some d) => if d.isOwn = true then ρ.set i (some (.d d.frz)) else ρ
  | _ => ρ

@[simp ↓] theorem m_frz : mFrz i v ρ = v (frzO ρ[i]? i ρ) := by
  unfold mFrz frzS frzO
  generalize ρ[i]? = o
  rcases o with _ | _ | s <;> rfl

@[simp ↓] theorem frzO_d {d : D} : frzO (some (some (.d d))) i ρ = ρ := rfl

@[simp ↓] theorem frzO_own {d : List D} : frzO (some (some (.own d))) i ρ = ρ.set i (some (.d (.lst d))) := rfl

@[simp ↓] theorem frzO_odic {d : List (Key × D)} : frzO (some (some (.odic d))) i ρ = ρ.set i (some (.d (.dic d))) := rfl

@[simp ↓] theorem m_asgN {f : TgF} : mAsgN f w ρ = bindES (w ρ) fun d ρ' => (M.lift (f d.frz)).bind fun l => nx (storesS ρ' l) := rfl

def ownM {β : Type} (o : Option (Option S)) (f : List D → M β) : M β := match o with
  | some (some (.own s)) => f s
  | _ => M.bad

@[simp ↓] theorem ownM_s {β : Type} {s : List D} {f : List D → M β} : ownM (some (some (.own s))) f = f s := rfl

@[simp ↓] theorem m_app : mApp i w ρ = (bindES (w ρ) fun d ρ1 => ownM ρ1[i]? fun ds => (nx (ρ1.set i (some (.own (ds ++ [d.frz]))))).req (ds.length < sizeLine)).req (∃ d0, ρ[i]? = some (some (.own d0))) := rfl

def lstM {β : Type} (o : D) (f : List D → M β) : M β := match o with
  | .lst s => f s
  | _ => M.bad

@[simp ↓] theorem lstM_s {β : Type} {s : List D} {f : List D → M β} : lstM (.lst s) f = f s := rfl

@[simp ↓] theorem m_ext : mExt i w ρ = (bindES (w ρ) fun d ρ1 => ownM ρ1[i]? fun ds => lstM d.frz fun es => (nx (ρ1.set i (some (.own (ds ++ es))))).req (ds.length + es.length ≤ sizeLine)).req (∃ d0, ρ[i]? = some (some (.own d0))) := by
  unfold mExt
  congr 2
  funext k ρ1
  generalize ρ1[i]? = o
  generalize S.frz k = p
  rcases o with _ | _ | s <;> first | rfl | (cases s <;> first | rfl | (cases p <;> rfl))

@[simp ↓] theorem m_setIx : mSetIx i wk w ρ = bindES (w ρ) fun d ρ1 => (bindES (wk ρ1) fun k ρ2 => slotM ρ2[i]? fun s => (M.lift (sIx s k.frz d.frz)).bind fun s' => nx (if s.isOwn = true then ρ2.set i (some s') else ρ2)).req (∃ s0, ρ1[i]? = some (some s0)) := rfl

def odicM {β : Type} (o : Option (Option S)) (f : List (Key × D) → M β) : M β := match o with
  | some (some (.odic s)) => f s
  | _ => M.bad

@[simp ↓] theorem odicM_s {β : Type} {s : List (Key × D)} {f : List (Key × D) → M β} : odicM (some (some (.odic s))) f = f s := rfl

def keyM {β : Type} (o : Option Key) (f : Key → M β) : M β := match o with
  | some s => f s
  | _ => M.bad

@[simp ↓] theorem keyM_s {β : Type} {s : Key} {f : Key → M β} : keyM (some s) f = f s := rfl

@[simp ↓] theorem m_dput : mDput i wk w ρ = bindES (w ρ) fun d ρ1 => (bindES (wk ρ1) fun k ρ2 => odicM ρ2[i]? fun kvs => keyM k.frz.key fun κ => (nx (ρ2.set i (some (.odic (putD kvs κ d.frz))))).req (kvs.length < sizeLine)).req (∃ s0, ρ1[i]? = some (some s0)) := by
  unfold mDput
  congr 1
  funext d ρ1
  congr 2
  funext k ρ2
  generalize ρ2[i]? = o
  generalize (S.frz k).key = p
  rcases o with _ | _ | s <;> first | rfl | (cases s <;> first | rfl | (cases p <;> rfl))

@[simp ↓] theorem m_mov : mMov i j ρ = slotM ρ[j]? fun s => nx ((ρ.set j none).set i (some s)) := by
  unfold mMov
  generalize ρ[j]? = o
  rcases o with _ | _ | s <;> rfl

@[simp ↓] theorem m_retV : mRetV j ρ = slotM ρ[j]? fun s => rt s := by
  unfold mRetV
  generalize ρ[j]? = o
  rcases o with _ | _ | s <;> rfl

def tup2M {β : Type} (o : D) (f : D → D → M β) : M β := match o with
  | .tup [a, b] => f a b
  | _ => M.bad

@[simp ↓] theorem tup2M_s {β : Type} {a b : D} {f : D → D → M β} : tup2M (.tup [a, b]) f = f a b := rfl

@[simp ↓] theorem m_asgJ {k : Int} : mAsgJ i j k w ρ = bindES (w ρ) fun d ρ1 => tup2M d.frz fun d1 d2 => ((M.lift (sIx (.d .jar) (.int k) d1)).bind fun _ => nx (ρ1.set j (some (.d d2)))).req (ρ1[i]? = some (some (.d .jar))) := rfl

@[simp ↓] theorem m_for {f : TgF} {vs : List Nat} : mFor wi f v vs ρ = bindES (wi ρ) fun ds ρ1 => forL (turn f v vs) ds (wipeS ρ1 vs) := rfl

/-! ### the slots' list -/


@[simp] theorem storesS_nil : storesS ρ [] = ρ := rfl

end

end DL

namespace DL

open PySem PySem.Spec L2

section

variable {ρ : Sl} {i j : Nat}

@[simp ↓] theorem st_nil' : storesS ρ [] = ρ := rfl

@[simp ↓] theorem st_cons' {p : Nat × D} {l : List (Nat × D)} : storesS ρ (p :: l) = storesS (ρ.set p.1 (some (.d p.2))) l := rfl

@[simp ↓] theorem wi_nil' : wipeS ρ [] = ρ := rfl

@[simp ↓] theorem wi_cons' {is : List Nat} : wipeS ρ (i :: is) = (wipeS ρ is).set i none := rfl

@[simp] theorem noOwn_nil : noOwnB ρ [] = true := rfl

def slotOwn (o : Option (Option S)) : Bool := match o with
  | some (some d) => !d.isOwn
  | _ => true

@[simp] theorem noOwn_cons {is : List Nat} : noOwnB ρ (i :: is) = (slotOwn ρ[i]? && noOwnB ρ is) := by
  unfold noOwnB slotOwn
  rw [List.all_cons]
  try rfl

@[simp] theorem slotOwn_d {d : D} : slotOwn (some (some (.d d))) = true := rfl

@[simp] theorem slotOwn_l {kvs : List (Key × D)} : slotOwn (some (some (.ldic kvs))) = true := rfl

@[simp] theorem slotOwn_n : slotOwn (some none) = true := rfl

@[simp] theorem slotOwn_nn : slotOwn none = true := rfl

@[simp ↓] theorem permL_nil {α : Type} {x0 : α} {l : List α} : permL x0 [] l = [] := rfl

@[simp ↓] theorem permL_cons {α : Type} {x0 : α} {l : List α} {is : List Nat} : permL x0 (i :: is) l = l.getD i x0 :: permL x0 is l := rfl

/-! ### two ways come together -/

variable {c : Prop} [Decidable c] {α : Type}

@[simp] theorem ite_ok {a b : α} {ρ ρ' : Sl} : (if c then ok a ρ else ok b ρ') = ok (if c then a else b) (if c then ρ else ρ') := by split <;> rfl

@[simp] theorem ite_nx {ρ ρ' : Sl} : (if c then nx ρ else nx ρ') = nx (if c then ρ else ρ') := by split <;> rfl

@[simp] theorem ite_rt {a b : S} : (if c then rt a else rt b) = rt (if c then a else b) := by split <;> rfl

@[simp] theorem ite_val {a b : S} : (if c then val a else val b) = val (if c then a else b) := by split <;> rfl

@[simp] theorem ite_slots {a b : Option S} {ρ ρ' : Sl} : (if c then (a :: ρ : Sl) else b :: ρ') = (if c then a else b) :: (if c then ρ else ρ') := by split <;> rfl

@[simp] theorem ite_some {a b : S} : (if c then some a else some b) = some (if c then a else b) := by split <;> rfl

@[simp] theorem ite_Sd {a b : D} : (if c then S.d a else S.d b) = S.d (if c then a else b) := by split <;> rfl

@[simp] theorem ite_Sown {a b : List D} : (if c then S.own a else S.own b) = S.own (if c then a else b) := by split <;> rfl

@[simp] theorem ite_Dint {a b : Int} : (if c then D.int a else D.int b) = D.int (if c then a else b) := by split <;> rfl

@[simp] theorem ite_Dbl {a b : Bool} : (if c then D.bl a else D.bl b) = D.bl (if c then a else b) := by split <;> rfl

@[simp] theorem ite_Dtup {a b : List D} : (if c then D.tup a else D.tup b) = D.tup (if c then a else b) := by split <;> rfl

@[simp] theorem ite_Dlst {a b : List D} : (if c then D.lst a else D.lst b) = D.lst (if c then a else b) := by split <;> rfl

@[simp] theorem ite_Dstr {a b : Str} : (if c then D.str a else D.str b) = D.str (if c then a else b) := by split <;> rfl

/-! ### operators -/

@[simp] theorem l_i2 {g : Int → Int → D} {a b : Int} : M.lift (fI2 g (.int a) (.int b)) = M.one (.d (g a b)) := lift_one fun _ => rfl

@[simp] theorem l_sub {a b : Int} : M.lift (fSub (.int a) (.int b)) = M.one (.d (.int (a - b))) := lift_one fun _ => rfl

@[simp] theorem l_addI {a b : Int} : M.lift (fAdd (.int a) (.int b)) = M.one (.d (.int (a + b))) := lift_one fun _ => rfl

@[simp] theorem l_addS {a b : Str} : M.lift (fAdd (.str a) (.str b)) = (M.one (.d (.str (a ++ b)))).req (a.length + b.length ≤ sizeLine) := lift_req fun _ => rfl

@[simp] theorem l_addT {a b : List D} : M.lift (fAdd (.tup a) (.tup b)) = (M.one (.d (.tup (a ++ b)))).req (a.length + b.length ≤ sizeLine) := lift_req fun _ => rfl

@[simp] theorem l_addL {a b : List D} : M.lift (fAdd (.lst a) (.lst b)) = (M.one (.own (a ++ b))).req (a.length + b.length ≤ sizeLine) := lift_req fun _ => rfl

@[simp] theorem l_mulI {a b : Int} : M.lift (fMul (.int a) (.int b)) = (M.one (.d (.int (a * b)))).req (MulOk a b) := lift_req fun _ => rfl

@[simp] theorem l_mulL {a : List D} {b : Int} : M.lift (fMul (.lst a) (.int b)) = (M.one (.own (List.replicate b.toNat a).flatten)).req ((-(2 ^ 63) ≤ b ∧ b < 2 ^ 63) ∧ a.length * b.toNat ≤ sizeLine) := lift_req fun _ => by simp [fMul, and_assoc]

@[simp] theorem l_mulT {a : List D} {b : Int} : M.lift (fMul (.tup a) (.int b)) = (M.one (.d (.tup (List.replicate b.toNat a).flatten))).req (a ≠ [] ∧ (2 ≤ b ∧ b ≤ 1000) ∧ a.length ≤ 1000) := lift_req fun _ => by simp [fMul, and_assoc]

@[simp] theorem l_divI {a b : Int} : M.lift (fDiv (.int a) (.int b)) = (M.one (.d (.int (a.fdiv b)))).req (DivOk a b) := lift_req fun _ => rfl

@[simp] theorem l_modI {a b : Int} : M.lift (fMod (.int a) (.int b)) = (M.one (.d (.int (a.fmod b)))).req (b ≠ 0) := lift_req fun _ => rfl

@[simp] theorem l_powI {a b : Int} : M.lift (fPow (.int a) (.int b)) = (M.one (.d (.int (a ^ b.toNat)))).req (CPow a b) := lift_req fun _ => rfl

@[simp] theorem l_neg {a : Int} : M.lift (fNeg (.int a)) = M.one (.d (.int (-a))) := lift_one fun _ => rfl

@[simp] theorem l_eqI {a b : Int} : M.lift (fEq (.int a) (.int b)) = M.one (.d (.bl (decide (a = b)))) := lift_one fun R => by
  rw [s_eqI]; congr 3

@[simp] theorem l_neI {a b : Int} : M.lift (fNe (.int a) (.int b)) = M.one (.d (.bl (!decide (a = b)))) := lift_one fun R => by
  rw [s_neI]; congr 3

@[simp] theorem l_eqS {a b : Str} : M.lift (fEq (.str a) (.str b)) = M.one (.d (.bl (a == b))) := lift_one fun R => s_eqS

@[simp] theorem l_neS {a b : Str} : M.lift (fNe (.str a) (.str b)) = M.one (.d (.bl (!(a == b)))) := lift_one fun R => s_neS

@[simp] theorem l_int1 {a : Int} : M.lift (fInt [.int a]) = M.one (.d (.int a)) := lift_one fun _ => rfl

@[simp] theorem l_int2 {a : Bool} : M.lift (fInt [.bl a]) = M.one (.d (.int (if a then 1 else 0))) := lift_one fun _ => rfl

@[simp] theorem l_abs {a : Int} : M.lift (fAbs [.int a]) = M.one (.d (.int (if a < 0 then -a else a))) := lift_one fun _ => rfl

@[simp] theorem l_max2 {a b : Int} : M.lift (fMax2 [.int a, .int b]) = M.one (.d (.int (max a b))) := lift_one fun R => by
  show R (.d (.int _)) = _
  congr 3; omega

@[simp] theorem l_min2 {a b : Int} : M.lift (fMin2 [.int a, .int b]) = M.one (.d (.int (min a b))) := lift_one fun R => by
  show R (.d (.int _)) = _
  congr 3; omega

@[simp] theorem l_lenT {ds : List D} : M.lift (fLen [.tup ds]) = M.one (.d (.int ds.length)) := lift_one fun R => s_lenT

@[simp] theorem l_lenL {ds : List D} : M.lift (fLen [.lst ds]) = M.one (.d (.int ds.length)) := lift_one fun R => s_lenL

@[simp] theorem l_lenR {ds : List D} : M.lift (fLen [.rls ds]) = M.one (.d (.int ds.length)) := lift_one fun R => s_lenR

@[simp] theorem l_lenS {s : Str} : M.lift (fLen [.str s]) = (M.one (.d (.int s.length))).req (s.length ≤ sizeLine) := lift_req fun R => rfl

@[simp] theorem l_tupL {ds : List D} : M.lift (fTuple [.lst ds]) = M.one (.d (.tup ds)) := lift_one fun R => s_tupL

@[simp] theorem l_tupT {ds : List D} : M.lift (fTuple [.tup ds]) = M.one (.d (.tup ds)) := lift_one fun R => s_tupT

@[simp] theorem l_tupR {ds : List D} : M.lift (fTuple [.rls ds]) = M.one (.d (.tup ds)) := lift_one fun R => by simp [fTuple, D.items]

@[simp] theorem l_lstT {ds : List D} : M.lift (fList [.tup ds]) = M.one (.own ds) := lift_one fun R => s_lstT

@[simp] theorem l_lstL {ds : List D} : M.lift (fList [.lst ds]) = M.one (.own ds) := lift_one fun R => s_lstL

@[simp] theorem l_lstR {ds : List D} : M.lift (fList [.rls ds]) = M.one (.own ds) := lift_one fun R => by simp [fList, D.items]

@[simp] theorem l_name {d : D} : M.lift (fName i d) = M.one [(i, d)] := lift_one fun _ => rfl

@[simp] theorem l_tupN {is : List Nat} {ds : List D} : M.lift (fTupN is (.tup ds)) = (M.one (is.zip ds)).req (ds.length = is.length) := lift_req fun _ => rfl

@[simp] theorem l_rg1 {j : Int} : M.lift (rg1 [.int j]) = (M.one (rangeD 0 j.toNat)).req (-(2 ^ 62) ≤ j ∧ j < 2 ^ 62) := lift_req fun _ => rfl

@[simp] theorem l_rg2 {i j : Int} : M.lift (rg2 [.int i, .int j]) = (M.one (rangeD i (j - i).toNat)).req (-(2 ^ 62) ≤ i ∧ i < 2 ^ 62 ∧ -(2 ^ 62) ≤ j ∧ j < 2 ^ 62) := lift_req fun _ => rfl

@[simp] theorem l_revL {ds : List D} : M.lift (fRev (.lst ds)) = M.one (.own ds.reverse) := lift_one fun _ => rfl

@[simp] theorem l_slT {ds : List D} {lo hi : Option Int} : M.lift (fSl (.tup ds) lo hi) = M.one (.d (.tup (cutD ds lo hi))) := lift_one fun _ => rfl

@[simp] theorem l_slL {ds : List D} {lo hi : Option Int} : M.lift (fSl (.lst ds) lo hi) = M.one (.own (cutD ds lo hi)) := lift_one fun _ => rfl

@[simp] theorem l_slR {ds : List D} {lo hi : Option Int} : M.lift (fSl (.rls ds) lo hi) = M.one (.own (cutD ds lo hi)) := lift_one fun _ => rfl

@[simp] theorem l_slS {s : Str} {lo hi : Option Int} : M.lift (fSl (.str s) lo hi) = (M.one (.d (.str (cutS s lo hi)))).req (s.length ≤ sizeLine) := lift_req fun _ => rfl

@[simp] theorem l_divmod {a b : Int} : M.lift (fDivmod [.int a, .int b]) = (M.one (.d (.tup [.int (a / b), .int (a % b)]))).req (CDivW a b) := lift_req fun _ => rfl

@[simp] theorem l_allB {bs : List Bool} : M.lift (fAll [.lst (bs.map .bl)]) = M.one (.d (.bl (bs.all id))) := lift_one fun R => s_allB

@[simp] theorem l_anyB {bs : List Bool} : M.lift (fAny [.lst (bs.map .bl)]) = M.one (.d (.bl (bs.any id))) := lift_one fun R => s_anyB

@[simp] theorem l_sum {ns : List Int} : M.lift (fSum [.lst (ns.map .int)]) = M.one (.d (.int ns.sum)) := lift_one fun R => s_sumL

@[simp] theorem l_isN_non : M.lift (fIs .non) = M.one (.d (.bl true)) := lift_one fun _ => rfl

@[simp] theorem l_isN_tup {ds : List D} : M.lift (fIs (.tup ds)) = M.one (.d (.bl false)) := lift_one fun _ => rfl

@[simp] theorem l_isN_int {i : Int} : M.lift (fIs (.int i)) = M.one (.d (.bl false)) := lift_one fun _ => rfl

@[simp] theorem l_isN_lst {i : List D} : M.lift (fIs (.lst i)) = M.one (.d (.bl false)) := lift_one fun _ => rfl

@[simp] theorem l_isN_str {i : Str} : M.lift (fIs (.str i)) = M.one (.d (.bl false)) := lift_one fun _ => rfl

@[simp] theorem l_isN_bl {i : Bool} : M.lift (fIs (.bl i)) = M.one (.d (.bl false)) := lift_one fun _ => rfl

@[simp] theorem l_isN_ins {c : Str} {fs : List (Str × D)} : M.lift (fIs (.ins c fs)) = M.one (.d (.bl false)) := lift_one fun _ => rfl

@[simp] theorem l_isn_non : M.lift (fIsn .non) = M.one (.d (.bl false)) := lift_one fun _ => rfl

@[simp] theorem l_isn_tup {ds : List D} : M.lift (fIsn (.tup ds)) = M.one (.d (.bl true)) := lift_one fun _ => rfl

@[simp] theorem l_isn_int {i : Int} : M.lift (fIsn (.int i)) = M.one (.d (.bl true)) := lift_one fun _ => rfl

@[simp] theorem l_isn_lst {i : List D} : M.lift (fIsn (.lst i)) = M.one (.d (.bl true)) := lift_one fun _ => rfl

@[simp] theorem l_isn_str {i : Str} : M.lift (fIsn (.str i)) = M.one (.d (.bl true)) := lift_one fun _ => rfl

@[simp] theorem l_isn_bl {i : Bool} : M.lift (fIsn (.bl i)) = M.one (.d (.bl true)) := lift_one fun _ => rfl

@[simp] theorem l_isn_ins {c : Str} {fs : List (Str × D)} : M.lift (fIsn (.ins c fs)) = M.one (.d (.bl true)) := lift_one fun _ => rfl

@[simp] theorem rangeD_len {lo : Int} {n : Nat} : (rangeD lo n).length = n := by unfold rangeD; simp

@[simp] theorem rangeDC_len {lo c : Int} {n : Nat} : (rangeDC lo c n).length = n := by unfold rangeDC; simp

@[simp] theorem sz_1 : (sizeLine : Nat) = 16777216 := by decide

/-! ### isinstance -/

@[simp] theorem l_isi_int {d : D} (h : d.known = true) : M.lift (fIsi [d, .v (.ty "int")]) = M.one (.d (.bl (d.isI || d.isBl))) := lift_one fun _ => isi_int h

@[simp] theorem l_isi_bool {d : D} (h : d.known = true) : M.lift (fIsi [d, .v (.ty "bool")]) = M.one (.d (.bl d.isBl)) := lift_one fun _ => isi_bool h

@[simp] theorem l_isi_tup {d : D} (h : d.known = true) : M.lift (fIsi [d, .v (.ty "tuple")]) = M.one (.d (.bl d.isT)) := lift_one fun _ => isi_tuple h

@[simp] theorem l_isi_str {d : D} (h : d.known = true) : M.lift (fIsi [d, .v (.ty "str")]) = M.one (.d (.bl d.isS)) := lift_one fun _ => isi_str h

/-! ### items by place -/

def ixM (ds : List D) (i : Int) : M S := match L2.atI ds i with
  | some x => M.one (.d x)
  | none => M.bad

theorem l_ix {d : D} {ds : List D} {i : Int} (h : ∀ R, fIx d (.int i) R = ∃ ds' x, d.items = some ds' ∧ L2.atI ds' i = some x ∧ R (.d x)) (e : d.items = some ds) : M.lift (fIx d (.int i)) = ixM ds i := by
  unfold ixM
  cases q : L2.atI ds i with
  | some x =>
    refine lift_one fun R => ?_
    rw [h, e]
    refine propext ⟨fun ⟨_, y, e1, e2, e3⟩ => ?_, fun z => ⟨ds, x, rfl, q, z⟩⟩
    cases e1; rw [q] at e2; cases e2; exact e3
  | none =>
    refine lift_bad fun R => ?_
    rw [h, e]
    refine propext ⟨fun ⟨_, y, e1, e2, e3⟩ => ?_, fun z => z.elim⟩
    cases e1; rw [q] at e2; cases e2

@[simp] theorem l_ixT {ds : List D} {i : Int} : M.lift (fIx (.tup ds) (.int i)) = ixM ds i := l_ix (fun _ => rfl) rfl

@[simp] theorem l_ixL {ds : List D} {i : Int} : M.lift (fIx (.lst ds) (.int i)) = ixM ds i := l_ix (fun _ => rfl) rfl

@[simp] theorem l_ixR {ds : List D} {i : Int} : M.lift (fIx (.rls ds) (.int i)) = ixM ds i := l_ix (fun _ => rfl) rfl

theorem ixM_some {ds : List D} {i : Int} {x : D} (h : L2.atI ds i = some x) : ixM ds i = M.one (.d x) := by unfold ixM; rw [h]

@[simp] theorem ixM_0 {a : D} {l : List D} : ixM (a :: l) 0 = M.one (.d a) := ixM_some (L2.atI_nat (j := 0) rfl)

@[simp] theorem ixM_1 {a b : D} {l : List D} : ixM (a :: b :: l) 1 = M.one (.d b) := ixM_some (L2.atI_nat (j := 1) rfl)

@[simp] theorem ixM_2 {a b c : D} {l : List D} : ixM (a :: b :: c :: l) 2 = M.one (.d c) := ixM_some (L2.atI_nat (j := 2) rfl)

@[simp] theorem ixM_3 {a b c d : D} {l : List D} : ixM (a :: b :: c :: d :: l) 3 = M.one (.d d) := ixM_some (L2.atI_nat (j := 3) rfl)

@[simp] theorem ixM_last {a : D} {l : List D} : ixM (l ++ [a]) (-1) = M.one (.d a) := ixM_some (L2.atI_last l a)

@[simp] theorem ixM_l1 {a : D} : ixM [a] (-1) = M.one (.d a) := ixM_last (l := [])

@[simp] theorem ixM_l2 {a b : D} : ixM [a, b] (-1) = M.one (.d b) := ixM_last (l := [a])

@[simp] theorem ixM_l3 {a b c : D} : ixM [a, b, c] (-1) = M.one (.d c) := ixM_last (l := [a, b])

/-- the item at place i -/
def nth {α : Type} [Inhabited α] (l : List α) (i : Nat) : α := l.getD i default

@[simp] theorem nth_0 {α : Type} [Inhabited α] {a : α} {l : List α} : nth (a :: l) 0 = a := by unfold nth; rfl

@[simp] theorem nth_s {α : Type} [Inhabited α] {a : α} {l : List α} {i : Nat} : nth (a :: l) (i + 1) = nth l i := by unfold nth; simp

theorem nth_lt {α : Type} [Inhabited α] {l : List α} {i : Nat} (h : i < l.length) : nth l i = l[i] := by
  unfold nth; rw [List.getD_eq_getElem?_getD, List.getElem?_eq_getElem h]; rfl

theorem nth_mem {α : Type} [Inhabited α] {l : List α} {i : Nat} (h : i < l.length) : nth l i ∈ l := by rw [nth_lt h]; exact List.getElem_mem h

theorem nth_some {α : Type} [Inhabited α] {l : List α} {i : Nat} (h : i < l.length) : l[i]? = some (nth l i) := by rw [nth_lt h, List.getElem?_eq_getElem h]

theorem ixM_nat {α : Type} [Inhabited α] {g : α → D} {l : List α} {i : Nat} : ixM (l.map g) (i : Int) = (M.one (.d (g (nth l i)))).req (i < l.length) := by
  by_cases h : i < l.length
  · rw [req_of h]
    refine ixM_some (atI_pos (by omega) ?_)
    rw [List.getElem?_map, Int.toNat_natCast, nth_some h]; rfl
  · have e : L2.atI (l.map g) (i : Int) = none := by
      unfold L2.atI ixN
      rw [if_pos (by omega), if_neg (by simp; omega)]; rfl
    unfold ixM
    rw [e]
    simp [h]

theorem ixM_neg1 {α : Type} [Inhabited α] {g : α → D} {l : List α} : ixM (l.map g) (-1) = (M.one (.d (g (nth l (l.length - 1))))).req (0 < l.length) := by
  by_cases h : 0 < l.length
  · rw [req_of h]
    obtain ⟨l', a, rfl⟩ : ∃ l' a, l = l' ++ [a] := ⟨l.dropLast, l.getLast (by intro z; rw [z] at h; simp at h), (List.dropLast_concat_getLast _).symm⟩
    rw [List.map_append, List.map_singleton, ixM_last, nth_lt (by simp)]
    simp
  · have e : l = [] := by cases l <;> simp_all
    subst e
    simp [ixM, L2.atI, ixN]

theorem ixM_int {α : Type} [Inhabited α] {g : α → D} {l : List α} {i : Int} (h0 : 0 ≤ i) : ixM (l.map g) i = (M.one (.d (g (nth l i.toNat)))).req (i < l.length) := by
  obtain ⟨n, rfl⟩ := Int.eq_ofNat_of_zero_le h0
  rw [ixM_nat]
  congr 1
  exact propext ⟨fun h => by omega, fun h => by omega⟩

@[simp] theorem ixM_natA {α : Type} [Inhabited α] {g : α → D} {l : List α} {i : Nat} : ixM (l.map g) (i : Int) = (M.one (.d (g (nth l i)))).req (i < l.length) := ixM_nat

@[simp] theorem ixM_natS {α : Type} [Inhabited α] {g : α → D} {l : List α} {i : Nat} : ixM (l.map g) ((i : Int) + 1) = (M.one (.d (g (nth l (i + 1))))).req (i + 1 < l.length) := ixM_nat (i := i + 1)

@[simp] theorem ixM_m0 {α : Type} [Inhabited α] {g : α → D} {l : List α} : ixM (l.map g) 0 = (M.one (.d (g (nth l 0)))).req (0 < l.length) := ixM_nat (i := 0)

@[simp] theorem ixM_m1 {α : Type} [Inhabited α] {g : α → D} {l : List α} : ixM (l.map g) 1 = (M.one (.d (g (nth l 1)))).req (1 < l.length) := ixM_nat (i := 1)

@[simp] theorem ixM_m2 {α : Type} [Inhabited α] {g : α → D} {l : List α} : ixM (l.map g) 2 = (M.one (.d (g (nth l 2)))).req (2 < l.length) := ixM_nat (i := 2)

@[simp] theorem ixM_mL {α : Type} [Inhabited α] {g : α → D} {l : List α} : ixM (l.map g) (-1) = (M.one (.d (g (nth l (l.length - 1))))).req (0 < l.length) := ixM_neg1

/-! ### kinds -/

@[simp] theorem isI_int {i : Int} : (D.int i).isI = true := by unfold D.isI; rfl

@[simp] theorem isBl_int {i : Int} : (D.int i).isBl = false := by unfold D.isBl; rfl

@[simp] theorem isS_int {i : Int} : (D.int i).isS = false := by unfold D.isS; rfl

@[simp] theorem isT_int {i : Int} : (D.int i).isT = false := by unfold D.isT; rfl

@[simp] theorem isI_bl {b : Bool} : (D.bl b).isI = false := by unfold D.isI; rfl

@[simp] theorem isBl_bl {b : Bool} : (D.bl b).isBl = true := by unfold D.isBl; rfl

@[simp] theorem isS_bl {b : Bool} : (D.bl b).isS = false := by unfold D.isS; rfl

@[simp] theorem isT_bl {b : Bool} : (D.bl b).isT = false := by unfold D.isT; rfl

@[simp] theorem isI_str {s : Str} : (D.str s).isI = false := by unfold D.isI; rfl

@[simp] theorem isBl_str {s : Str} : (D.str s).isBl = false := by unfold D.isBl; rfl

@[simp] theorem isS_str {s : Str} : (D.str s).isS = true := by unfold D.isS; rfl

@[simp] theorem isT_str {s : Str} : (D.str s).isT = false := by unfold D.isT; rfl

@[simp] theorem isI_tup {l : List D} : (D.tup l).isI = false := by unfold D.isI; rfl

@[simp] theorem isBl_tup {l : List D} : (D.tup l).isBl = false := by unfold D.isBl; rfl

@[simp] theorem isS_tup {l : List D} : (D.tup l).isS = false := by unfold D.isS; rfl

@[simp] theorem isT_tup {l : List D} : (D.tup l).isT = true := by unfold D.isT; rfl

@[simp] theorem isI_lst {l : List D} : (D.lst l).isI = false := by unfold D.isI; rfl

@[simp] theorem isBl_lst {l : List D} : (D.lst l).isBl = false := by unfold D.isBl; rfl

@[simp] theorem isS_lst {l : List D} : (D.lst l).isS = false := by unfold D.isS; rfl

@[simp] theorem isT_lst {l : List D} : (D.lst l).isT = false := by unfold D.isT; rfl

@[simp] theorem isI_rls {l : List D} : (D.rls l).isI = false := by unfold D.isI; rfl

@[simp] theorem isBl_rls {l : List D} : (D.rls l).isBl = false := by unfold D.isBl; rfl

@[simp] theorem isS_rls {l : List D} : (D.rls l).isS = false := by unfold D.isS; rfl

@[simp] theorem isT_rls {l : List D} : (D.rls l).isT = false := by unfold D.isT; rfl

@[simp] theorem isI_non : (D.non).isI = false := by unfold D.isI; rfl

@[simp] theorem isBl_non : (D.non).isBl = false := by unfold D.isBl; rfl

@[simp] theorem isS_non : (D.non).isS = false := by unfold D.isS; rfl

@[simp] theorem isT_non : (D.non).isT = false := by unfold D.isT; rfl

@[simp] theorem isI_dic {l : List (Key × D)} : (D.dic l).isI = false := by unfold D.isI; rfl

@[simp] theorem isBl_dic {l : List (Key × D)} : (D.dic l).isBl = false := by unfold D.isBl; rfl

@[simp] theorem isS_dic {l : List (Key × D)} : (D.dic l).isS = false := by unfold D.isS; rfl

@[simp] theorem isT_dic {l : List (Key × D)} : (D.dic l).isT = false := by unfold D.isT; rfl

@[simp] theorem isI_ins {c : Str} {l : List (Str × D)} : (D.ins c l).isI = false := by unfold D.isI; rfl

@[simp] theorem isBl_ins {c : Str} {l : List (Str × D)} : (D.ins c l).isBl = false := by unfold D.isBl; rfl

@[simp] theorem isS_ins {c : Str} {l : List (Str × D)} : (D.ins c l).isS = false := by unfold D.isS; rfl

@[simp] theorem isT_ins {c : Str} {l : List (Str × D)} : (D.ins c l).isT = false := by unfold D.isT; rfl

end

end DL







/-! ML7: loops and comprehensions are run. -/

namespace DL

open PySem PySem.Spec L2

section

variable {α β γ : Type} {ρ : Sl} {e : Exn} {s : S} {c : Prop} [Decidable c]

/-! ### comprehensions -/

theorem lcAll_map {g : β → α} {step : α → M (List D)} : ∀ {l : List β}, lcAll step (l.map g) = lcAll (fun a => step (g a)) l
  | [] => rfl
  | a :: l => by simp only [List.map_cons, lcAll, lcAll_map]

@[simp ↓] theorem lcAll_nil {step : α → M (List D)} : lcAll step [] = M.one [] := rfl

theorem lcAll_cons {step : α → M (List D)} {a : α} {l : List α} : lcAll step (a :: l) = (step a).bind fun ys => (lcAll step l).bind fun zs => M.one (ys ++ zs) := rfl

theorem lcAll_congr {step step' : α → M (List D)} : ∀ {l : List α}, (∀ a ∈ l, step a = step' a) → lcAll step l = lcAll step' l
  | [], _ => rfl
  | a :: l, h => by rw [lcAll_cons, lcAll_cons, h a (List.mem_cons_self ..), lcAll_congr fun b hb => h b (List.mem_cons_of_mem _ hb)]

theorem lcAll_rng {step : D → M (List D)} {lo : Int} {n : Nat} : lcAll step (rangeD lo n) = lcAll (fun i : Nat => step (.int (lo + (i : Nat)))) (List.range n) := lcAll_map

theorem lcAll_one {h : α → List D} : ∀ {l : List α}, (lcAll (fun a => M.one (h a)) l) = M.one (l.flatMap h)
  | [] => rfl
  | a :: l => by rw [lcAll_cons, lcAll_one]; rfl

@[simp] theorem lcAll_one1 {h : α → D} {l : List α} : (lcAll (fun a => M.one [h a]) l) = M.one (l.map h) := by
  rw [lcAll_one]; congr 1; induction l <;> simp_all

@[simp] theorem lcAll_if {p : α → Prop} [∀ a, Decidable (p a)] {h : α → D} {l : List α} : (lcAll (fun a => if p a then M.one [h a] else M.one []) l) = M.one ((l.filter fun a => decide (p a)).map h) := by
  have e : (fun a => if p a then M.one [h a] else M.one []) = fun a => M.one (if p a then [h a] else []) := by funext a; split <;> rfl
  rw [e, lcAll_one]
  congr 1
  induction l with
  | nil => rfl
  | cons a l ih => by_cases q : p a <;> simp [q, ih]

@[simp] theorem lcAll_req1 {q : α → Prop} {h : α → D} : ∀ {l : List α}, (lcAll (fun a => (M.one [h a]).req (q a)) l) = (M.one (l.map h)).req (∀ a ∈ l, q a)
  | [] => by simp
  | a :: l => by
    rw [lcAll_cons, lcAll_req1]
    refine M.ext fun μ P => ?_
    simp [and_assoc]

@[simp] theorem lcAll_ifreq {p : α → Prop} [∀ a, Decidable (p a)] {q : α → Prop} {h : α → D} : ∀ {l : List α}, (lcAll (fun a => if p a then (M.one [h a]).req (q a) else M.one []) l) = (M.one ((l.filter fun a => decide (p a)).map h)).req (∀ a ∈ l, p a → q a)
  | [] => by simp
  | a :: l => by
    rw [lcAll_cons, lcAll_ifreq]
    refine M.ext fun μ P => ?_
    by_cases z : p a <;> simp [z, and_assoc]

@[simp] theorem lcAll_req_if {p : α → Prop} [∀ a, Decidable (p a)] {q : α → Prop} {h : α → D} : ∀ {l : List α}, (lcAll (fun a => (if p a then (M.one [h a]) else M.one []).req (q a)) l) = (M.one ((l.filter fun a => decide (p a)).map h)).req (∀ a ∈ l, q a)
  | [] => by simp
  | a :: l => by
    rw [lcAll_cons, lcAll_req_if]
    refine M.ext fun μ P => ?_
    by_cases z : p a <;> simp [z, and_assoc]

theorem Paired.length {R : α → β → Prop} : ∀ {xs : List α} {ys : List β}, Paired R xs ys → xs.length = ys.length
  | _, _, .nil => rfl
  | _, _, .cons _ h => congrArg (· + 1) (Paired.length h)

variable {f f1 : TgF} {t t1 : EM Bool} {w : EM S} {b : SM} {vs vs1 : List Nat} {d : D} {wi1 : EM (List D)}

@[simp ↓] theorem lcT_eq : lcT f t w ρ d = (M.lift (f d)).bind fun l => (quiet (t (storesS ρ l)) (storesS ρ l)).bind fun b => if b = true then (quiet (w (storesS ρ l)) (storesS ρ l)).bind fun y => M.one [y.frz] else M.one [] := rfl

@[simp ↓] theorem lcT2_eq : lcT2 f t wi1 f1 t1 w vs1 ρ d = (M.lift (f d)).bind fun l => (quiet0 (t (storesS ρ l)) (storesS ρ l)).bind fun b =>
  if b = true then (quiet0 (wi1 (storesS ρ l)) (storesS ρ l)).bind fun ds1 => (still (lcAll (lcT0 f1 t1 w (wipeS (storesS ρ l) vs1)) ds1)).req (ds1.length ≤ 2000) else M.one [] := rfl

@[simp ↓] theorem lcT0_eq : lcT0 f t w ρ d = (M.lift (f d)).bind fun l => (quiet0 (t (storesS ρ l)) (storesS ρ l)).bind fun b => if b = true then (quiet0 (w (storesS ρ l)) (storesS ρ l)).bind fun y => M.one [y.frz] else M.one [] := rfl

/-! ### loops -/

@[simp ↓] theorem turn_eq : turn f b vs d ρ = (M.lift (f d)).bind fun l => loopEnd vs (b (storesS ρ l)) := rfl

@[simp ↓] theorem lE_nx : loopEnd vs (nx ρ) = nx (wipeS ρ vs) := rfl

@[simp ↓] theorem lE_ct : loopEnd vs (ct ρ) = nx (wipeS ρ vs) := rfl

@[simp ↓] theorem lE_bk : loopEnd vs (bk ρ) = bk (wipeS ρ vs) := rfl

@[simp ↓] theorem lE_rt : loopEnd vs (rt s) = rt s := rfl

@[simp ↓] theorem lE_ex : loopEnd vs (ex e ρ) = ex e ρ := rfl

@[simp ↓] theorem lE_bind {m : M γ} {k : γ → MS} : loopEnd vs (m.bind k) = m.bind fun a => loopEnd vs (k a) := rfl

@[simp ↓] theorem lE_req {m : MS} {p : Prop} : loopEnd vs (m.req p) = (loopEnd vs m).req p := rfl

@[simp ↓] theorem lE_bad : loopEnd vs M.bad = M.bad := rfl

@[simp ↓] theorem lE_ite {m n : MS} : loopEnd vs (if c then m else n) = if c then loopEnd vs m else loopEnd vs n := by split <;> rfl

variable {k : Sl → MS}

@[simp ↓] theorem bL_nx : bindL (nx ρ) k = k ρ := rfl

@[simp ↓] theorem bL_bk : bindL (bk ρ) k = nx ρ := rfl

@[simp ↓] theorem bL_ct : bindL (ct ρ) k = M.bad := rfl

@[simp ↓] theorem bL_rt : bindL (rt s) k = rt s := rfl

@[simp ↓] theorem bL_ex : bindL (ex e ρ) k = ex e ρ := rfl

@[simp ↓] theorem bL_bind {m : M γ} {f : γ → MS} : bindL (m.bind f) k = m.bind fun x => bindL (f x) k := rfl

@[simp ↓] theorem bL_req {m : MS} {p : Prop} : bindL (m.req p) k = (bindL m k).req p := rfl

@[simp ↓] theorem bL_bad : bindL (M.bad : MS) k = M.bad := rfl

@[simp ↓] theorem bL_iteL1 {n : MS} : bindL (if c then rt s else n) k = if c then rt s else bindL n k := by split <;> rfl

@[simp ↓] theorem bL_iteR1 {n : MS} : bindL (if c then n else rt s) k = if c then bindL n k else rt s := by split <;> rfl

@[simp ↓] theorem bL_iteL2 {n : MS} : bindL (if c then ex e ρ else n) k = if c then ex e ρ else bindL n k := by split <;> rfl

@[simp ↓] theorem bL_iteR2 {n : MS} : bindL (if c then n else ex e ρ) k = if c then bindL n k else ex e ρ := by split <;> rfl

@[simp ↓] theorem bL_iteL4 {n : MS} : bindL (if c then bk ρ else n) k = if c then nx ρ else bindL n k := by split <;> rfl

@[simp ↓] theorem bL_iteR4 {n : MS} : bindL (if c then n else bk ρ) k = if c then bindL n k else nx ρ := by split <;> rfl

@[simp ↓] theorem forL_nil {step : α → Sl → MS} : forL step [] ρ = nx ρ := rfl

theorem forL_cons {step : α → Sl → MS} {a : α} {l : List α} : forL step (a :: l) ρ = bindL (step a ρ) (forL step l) := rfl

theorem forL_map {g : β → α} {step : α → Sl → MS} : ∀ {l : List β} {ρ : Sl}, forL step (l.map g) ρ = forL (fun a => step (g a)) l ρ
  | [], _ => rfl
  | a :: l, ρ => by
    have e : forL step (l.map g) = forL (fun a => step (g a)) l := funext fun ρ => forL_map
    rw [List.map_cons, forL_cons, forL_cons, e]

theorem forL_rng {step : D → Sl → MS} {lo : Int} {n : Nat} : forL step (rangeD lo n) ρ = forL (fun i : Nat => step (.int (lo + (i : Nat)))) (List.range n) ρ := forL_map

/-- the state behind each beginning -/
theorem forL_pre {step : α → Sl → MS} {l : List α} (f : List α → Sl) (h : ∀ pre a post, l = pre ++ a :: post → step a (f pre) = nx (f (pre ++ [a]))) : forL step l (f []) = nx (f l) := by
  have key : ∀ (post pre : List α), l = pre ++ post → forL step post (f pre) = nx (f l) := fun post => by
    induction post with
    | nil => intro pre e; rw [forL_nil, e, List.append_nil]
    | cons a post ih =>
      intro pre e
      rw [forL_cons, h pre a post e, bL_nx]
      exact ih (pre ++ [a]) (by rw [e]; simp)
  exact key l [] rfl

/-- the first item with p ends it -/
theorem forL_find {step : α → Sl → MS} {l : List α} (f : List α → Sl) (p : α → Bool) (r : α → MS) (hr : ∀ a k, bindL (r a) k = r a) (h : ∀ pre a post, l = pre ++ a :: post → (∀ x ∈ pre, p x = false) → step a (f pre) = if p a = true then r a else nx (f (pre ++ [a]))) :
    forL step l (f []) = match l.find? p with
      | some a => r a
      | none => nx (f l) := by
  have key : ∀ (post pre : List α), l = pre ++ post → (∀ x ∈ pre, p x = false) → forL step post (f pre) = match post.find? p with
      | some a => r a
      | none => nx (f l) := fun post => by
    induction post with
    | nil => intro pre e _; rw [forL_nil, e, List.append_nil]; rfl
    | cons a post ih =>
      intro pre e hp
      rw [forL_cons, h pre a post e hp]
      cases q : p a with
      | true =>
        rw [if_pos rfl, hr, List.find?_cons, q]
      | false =>
        rw [if_neg Bool.false_ne_true, bL_nx, List.find?_cons, q]
        exact ih (pre ++ [a]) (by rw [e]; simp) fun x hx => by
          rcases List.mem_append.mp hx with hx | hx
          · exact hp x hx
          · rw [List.mem_singleton.mp hx, q]
  exact key l [] rfl (fun x hx => absurd hx (by simp))

/-- what may be at the end of a turn -/
def endP (P : Fl × Sl → Mem → Prop) (I : Sl → Mem → Prop) : Fl × Sl → Mem → Prop := fun r μ => match r.1 with
  | .nx => I r.2 μ
  | .bk => P (.nx, r.2) μ
  | .ct => False
  | .rt s => P (.rt s, []) μ
  | .ex e => P (.ex e, r.2) μ

/-- .. the cells stay -/
def endS (P : Fl × Sl → Prop) (I : Sl → Prop) : Fl × Sl → Prop := fun r => match r.1 with
  | .nx => I r.2
  | .bk => P (.nx, r.2)
  | .ct => False
  | .rt s => P (.rt s, [])
  | .ex e => P (.ex e, r.2)

theorem sat_bindL {m : MS} {P : Fl × Sl → Prop} {I : Sl → Prop} (h : m.sat (endS P I)) (hk : ∀ ρ, I ρ → (k ρ).sat P) : (bindL m k).sat P := by
  refine M.sat.bind h fun r hr => ?_
  obtain ⟨r, ρ⟩ := r
  cases r <;> first | exact hk ρ hr | exact sat_one.mpr hr | exact False.elim hr

theorem forL_sat {step : α → Sl → MS} {P : Fl × Sl → Prop} (I : List α → Sl → Prop) : ∀ {l : List α} {ρ : Sl}, I l ρ → (∀ a l' ρ, I (a :: l') ρ → (step a ρ).sat (endS P (I l'))) → (∀ ρ, I [] ρ → P (.nx, ρ)) → (forL step l ρ).sat P
  | [], ρ, h, _, hd => by rw [forL_nil]; exact sat_one.mpr (hd ρ h)
  | a :: l, ρ, h, hs, hd => by
    rw [forL_cons]
    exact sat_bindL (hs a l ρ h) fun ρ' h' => forL_sat I h' hs hd

@[simp] theorem endP_nx {μ : Mem} {P : Fl × Sl → Mem → Prop} {I : Sl → Mem → Prop} : endP P I (.nx, ρ) μ = I ρ μ := rfl

@[simp] theorem endP_bk {μ : Mem} {P : Fl × Sl → Mem → Prop} {I : Sl → Mem → Prop} : endP P I (.bk, ρ) μ = P (.nx, ρ) μ := rfl

@[simp] theorem endP_rt {μ : Mem} {P : Fl × Sl → Mem → Prop} {I : Sl → Mem → Prop} : endP P I (.rt s, ρ) μ = P (.rt s, []) μ := rfl

@[simp] theorem endP_ex {μ : Mem} {P : Fl × Sl → Mem → Prop} {I : Sl → Mem → Prop} : endP P I (.ex e, ρ) μ = P (.ex e, ρ) μ := rfl

@[simp] theorem endS_nx {P : Fl × Sl → Prop} {I : Sl → Prop} : endS P I (.nx, ρ) = I ρ := rfl

@[simp] theorem endS_bk {P : Fl × Sl → Prop} {I : Sl → Prop} : endS P I (.bk, ρ) = P (.nx, ρ) := rfl

@[simp] theorem endS_rt {P : Fl × Sl → Prop} {I : Sl → Prop} : endS P I (.rt s, ρ) = P (.rt s, []) := rfl

@[simp] theorem endS_ex {P : Fl × Sl → Prop} {I : Sl → Prop} : endS P I (.ex e, ρ) = P (.ex e, ρ) := rfl

@[simp] theorem sat_nx {P : Fl × Sl → Prop} : (nx ρ).sat P = P (.nx, ρ) := sat_one

@[simp] theorem sat_rt {P : Fl × Sl → Prop} : (rt s).sat P = P (.rt s, []) := sat_one

@[simp] theorem sat_bk {P : Fl × Sl → Prop} : (bk ρ).sat P = P (.bk, ρ) := sat_one

@[simp] theorem sat_ex {P : Fl × Sl → Prop} : (ex e ρ).sat P = P (.ex e, ρ) := sat_one

@[simp] theorem sat_val {P : Oc S → Prop} : (val s).sat P = P (.v s) := sat_one

@[simp] theorem sat_exn {P : Oc S → Prop} : (exn e).sat P = P (.x e) := sat_one

theorem M.le.bind {m n : M α} {k : α → M β} (h : m.le n) : (m.bind k).le (n.bind k) := fun μ P q => h _ _ q

theorem M.le_of_eq {m n : M α} (h : m = n) : m.le n := by rw [h]; exact M.le_refl _

/-! ### a def in the place of another -/

end

end DL







/-! ML8: jars, sorting, kinds of data; small facts. -/

namespace DL

open PySem PySem.Spec L2

theorem law_tf {f : FM} {ds : List D} (h : (f ds).wp [] fun r _ => r = .v (.d (.bl true))) : tf f (fun _ _ => False) ds [] fun s _ => s = .d (.bl true) :=
  (f ds).mono (fun r μ hr => by subst hr; rfl) h

theorem law_sat {f : FM} {ds : List D} (h : (f ds).sat fun r => r = .v (.d (.bl true))) : (f ds).wp [] fun r _ => r = .v (.d (.bl true)) := h.wp fun a e => e

section

variable {α β : Type}

theorem one_inj {a b : α} : (M.one a = M.one b) = (a = b) := propext ⟨fun h => by
  have : (M.one b).wp [] fun x _ => a = x := by rw [← h]; rfl
  exact this, fun h => by rw [h]⟩

@[simp] theorem val_inj {a b : S} : (val a = val b) = (a = b) := by
  unfold val; rw [one_inj]; exact propext ⟨fun h => by cases h; rfl, fun h => by rw [h]⟩

@[simp] theorem nx_inj {a b : Sl} : (nx a = nx b) = (a = b) := by
  unfold nx; rw [one_inj]; exact propext ⟨fun h => by cases h; rfl, fun h => by rw [h]⟩

@[simp] theorem rt_inj {a b : S} : (rt a = rt b) = (a = b) := by
  unfold rt; rw [one_inj]; exact propext ⟨fun h => by cases h; rfl, fun h => by rw [h]⟩

theorem val_bl {a b : Bool} (h : a = true ↔ b = true) : val (.d (.bl a)) = val (.d (.bl b)) := by rw [Bool.eq_iff_iff.mpr h]

/-! ### jars -/

@[simp] theorem l_jar0 : M.lift (fIx .jar (.int 0)) = (M.any fun _ : Int => True).bind fun n => M.one (.d (.int n)) := M.ext fun μ P => by
  simp only [wp_lift, wp_bind, wp_any, wp_one, j_ix0]
  exact propext ⟨fun ⟨R, h, i⟩ n _ => i _ (h n), fun h => ⟨fun s => P s μ, fun n => h n trivial, fun _ q => q⟩⟩

@[simp] theorem l_jar2 : M.lift (fIx .jar (.int 2)) = (M.any fun _ : Int => True).bind fun n => M.one (.d (.int n)) := M.ext fun μ P => by
  simp only [wp_lift, wp_bind, wp_any, wp_one, j_ix2]
  exact propext ⟨fun ⟨R, h, i⟩ n _ => i _ (h n), fun h => ⟨fun s => P s μ, fun n => h n trivial, fun _ q => q⟩⟩

@[simp] theorem l_jar1 : M.lift (fIx .jar (.int 1)) = (M.any fun n : Int => -(2 ^ 40) < n ∧ n < 2 ^ 40).bind fun n => M.one (.d (.int n)) := M.ext fun μ P => by
  simp only [wp_lift, wp_bind, wp_any, wp_one, j_ix1]
  exact propext ⟨fun ⟨R, h, i⟩ n b => i _ (h n b), fun h => ⟨fun s => P s μ, fun n b => h n b, fun _ q => q⟩⟩

@[simp] theorem l_sjar0 {n : Int} : M.lift (sIx (.d .jar) (.int 0) (.int n)) = M.one (.d .jar) := lift_one fun _ => j_s0

@[simp] theorem l_sjar2 {n : Int} : M.lift (sIx (.d .jar) (.int 2) (.int n)) = M.one (.d .jar) := lift_one fun _ => j_s2

@[simp] theorem l_sjar1 {n : Int} : M.lift (sIx (.d .jar) (.int 1) (.int n)) = (M.one (.d .jar)).req (-(2 ^ 40) < n ∧ n < 2 ^ 40) := lift_req fun _ => j_s1

/-! ### x[k] = e -/

theorem l_sIx {ds : List D} {i : Int} {d : D} (h0 : 0 ≤ i) (h1 : i < ds.length) : M.lift (sIx (.own ds) (.int i) d) = M.one (.own (ds.set i.toNat d)) := lift_one fun R => by
  have e : ixN ds.length i = some i.toNat := by
    unfold ixN
    rw [if_pos h0, if_pos h1]
  show (∃ n, ixN ds.length i = some n ∧ R (.own (ds.set n d))) = _
  rw [e]
  exact propext ⟨fun ⟨n, q, r⟩ => by cases q; exact r, fun r => ⟨_, rfl, r⟩⟩

/-! ### sorting -/

def isort (ns : List Int) : List Int := ns.mergeSort fun a b => decide (a ≤ b)

theorem isort_perm (ns : List Int) : (isort ns).Perm ns := List.mergeSort_perm ..

theorem isort_sorted (ns : List Int) : (isort ns).Pairwise (· ≤ ·) := by
  have := List.pairwise_mergeSort (le := fun a b : Int => decide (a ≤ b)) (by intro a b c; simp; omega) (by intro a b; simp; omega) ns
  exact this.imp fun h => by simpa using h

theorem isort_uniq {ns ms : List Int} (p : ms.Perm ns) (s : ms.Pairwise (· ≤ ·)) : ms = isort ns :=
  (p.trans (isort_perm ns).symm).eq_of_pairwise (fun a b _ _ h1 h2 => Int.le_antisymm h1 h2) s (isort_sorted ns)

theorem isort_id {ns : List Int} (s : ns.Pairwise (· ≤ ·)) : isort ns = ns := (isort_uniq (.refl _) s).symm

@[simp] theorem isort_length {ns : List Int} : (isort ns).length = ns.length := (isort_perm ns).length_eq

theorem fInts_lst {g : List Int → (S → Prop) → Prop} {ns : List Int} {R : S → Prop} : fInts g [.lst (ns.map .int)] R = g ns R := by
  unfold fInts
  refine propext ⟨fun ⟨ms, e, h⟩ => ?_, fun h => ⟨ns, .inl rfl, h⟩⟩
  rcases e with e | e
  · have : ns = ms := int_inj (by injection e with e _; injection e)
    rwa [this]
  · injection e with e _; cases e

@[simp] theorem l_sorted {ns : List Int} : M.lift (fSorted [.lst (ns.map .int)]) = M.one (.own ((isort ns).map .int)) := M.ext fun μ P => by
  rw [wp_lift, wp_one]
  refine propext ⟨fun ⟨R, h, i⟩ => i _ ?_, fun h => ⟨fun s => s = .own ((isort ns).map .int), ?_, fun s e => by rw [e]; exact h⟩⟩
  · unfold fSorted at h
    rw [fInts_lst] at h
    exact h _ (isort_perm ns) (isort_sorted ns)
  · unfold fSorted
    rw [fInts_lst]
    exact fun ns' p s => by rw [isort_uniq p s]

/-- strictly ascending, each once -/
def insU (a : Int) : List Int → List Int
  | [] => [a]
  | b :: l => if a < b then a :: b :: l else if a = b then b :: l else b :: insU a l

def usort (ns : List Int) : List Int := ns.foldr insU []

theorem insU_mem {a x : Int} : ∀ {l : List Int}, x ∈ insU a l ↔ x = a ∨ x ∈ l
  | [] => by simp [insU]
  | b :: l => by
    unfold insU
    split
    · simp
    · split
      · rename_i h; subst h; simp
      · simp only [List.mem_cons, insU_mem (l := l)]
        constructor
        · rintro (h | h | h) <;> simp [h]
        · rintro (h | h | h) <;> simp [h]

theorem insU_sorted {a : Int} : ∀ {l : List Int}, l.Pairwise (· < ·) → (insU a l).Pairwise (· < ·)
  | [], _ => by simp [insU]
  | b :: l, h => by
    obtain ⟨h1, h2⟩ := List.pairwise_cons.mp h
    unfold insU
    split
    · rename_i q
      exact List.pairwise_cons.mpr ⟨fun x hx => by
        rcases List.mem_cons.mp hx with rfl | hx
        · exact q
        · exact Int.lt_trans q (h1 x hx), h⟩
    · split
      · exact h
      · refine List.pairwise_cons.mpr ⟨fun x hx => ?_, insU_sorted h2⟩
        rcases insU_mem.mp hx with rfl | hx
        · omega
        · exact h1 x hx

theorem usort_mem {ns : List Int} {x : Int} : x ∈ usort ns ↔ x ∈ ns := by
  unfold usort
  induction ns with
  | nil => simp
  | cons a l ih => rw [List.foldr_cons, insU_mem, ih, List.mem_cons]

theorem usort_sorted (ns : List Int) : (usort ns).Pairwise (· < ·) := by
  unfold usort
  induction ns with
  | nil => simp
  | cons a l ih => exact insU_sorted ih

theorem insU_len {a : Int} : ∀ {l : List Int}, (insU a l).length ≤ l.length + 1
  | [] => by simp [insU]
  | b :: l => by
    unfold insU
    split
    · simp
    · split
      · simp
      · have := insU_len (a := a) (l := l); simp; omega

theorem usort_len (ns : List Int) : (usort ns).length ≤ ns.length := by
  unfold usort
  induction ns with
  | nil => simp
  | cons a l ih => rw [List.foldr_cons, List.length_cons]; have := insU_len (a := a) (l := List.foldr insU [] l); omega

theorem sorted_uniq : ∀ {a b : List Int}, a.Pairwise (· < ·) → b.Pairwise (· < ·) → (∀ x, x ∈ a ↔ x ∈ b) → a = b
  | [], [], _, _, _ => rfl
  | [], y :: _, _, _, h => absurd ((h y).mpr (List.mem_cons_self ..)) (by simp)
  | x :: _, [], _, _, h => absurd ((h x).mp (List.mem_cons_self ..)) (by simp)
  | x :: xs, y :: ys, ha, hb, h => by
    obtain ⟨a1, a2⟩ := List.pairwise_cons.mp ha
    obtain ⟨b1, b2⟩ := List.pairwise_cons.mp hb
    have e : x = y := by
      rcases List.mem_cons.mp ((h x).mp (List.mem_cons_self ..)) with q | q
      · exact q
      · rcases List.mem_cons.mp ((h y).mpr (List.mem_cons_self ..)) with r | r
        · exact r.symm
        · have := a1 y r; have := b1 x q; omega
    subst e
    congr 1
    refine sorted_uniq a2 b2 fun z => ⟨fun hz => ?_, fun hz => ?_⟩
    · rcases List.mem_cons.mp ((h z).mp (List.mem_cons_of_mem _ hz)) with q | q
      · subst q; have := a1 z hz; omega
      · exact q
    · rcases List.mem_cons.mp ((h z).mpr (List.mem_cons_of_mem _ hz)) with q | q
      · subst q; have := b1 z hz; omega
      · exact q

theorem usort_id {ns : List Int} (h : ns.Pairwise (· < ·)) : usort ns = ns := sorted_uniq (usort_sorted ns) h fun _ => usort_mem

@[simp] theorem l_sortedSet {ns : List Int} : M.lift (fSortedSet [.lst (ns.map .int)]) = (M.one (.own ((usort ns).map .int))).req (ns.length < 4095) := M.ext fun μ P => by
  rw [wp_lift, wp_req, wp_one]
  refine propext ⟨fun ⟨R, h, i⟩ => ?_, fun ⟨h1, h⟩ => ⟨fun s => s = .own ((usort ns).map .int), ?_, fun s e => by rw [e]; exact h⟩⟩
  · unfold fSortedSet at h
    rw [fInts_lst] at h
    exact ⟨h.1, i _ (h.2 _ (usort_sorted ns) fun k => usort_mem)⟩
  · unfold fSortedSet
    rw [fInts_lst]
    exact ⟨h1, fun ns' p s => by rw [sorted_uniq p (usort_sorted ns) fun k => (s k).trans usort_mem.symm]⟩

/-- the greatest, the least -/
def maxL : List Int → Int
  | [] => 0
  | [a] => a
  | a :: b :: l => max a (maxL (b :: l))

def minL : List Int → Int
  | [] => 0
  | [a] => a
  | a :: b :: l => min a (minL (b :: l))

theorem maxL_spec : ∀ {l : List Int}, l ≠ [] → maxL l ∈ l ∧ ∀ y ∈ l, y ≤ maxL l
  | [a], _ => by simp [maxL]
  | a :: b :: l, _ => by
    obtain ⟨h1, h2⟩ := maxL_spec (l := b :: l) (by simp)
    unfold maxL
    refine ⟨?_, fun y hy => ?_⟩
    · rcases Int.le_total a (maxL (b :: l)) with q | q
      · rw [Int.max_eq_right q]; exact List.mem_cons_of_mem _ h1
      · rw [Int.max_eq_left q]; exact List.mem_cons_self ..
    · rcases List.mem_cons.mp hy with rfl | hy
      · omega
      · have := h2 y hy; omega

theorem minL_spec : ∀ {l : List Int}, l ≠ [] → minL l ∈ l ∧ ∀ y ∈ l, minL l ≤ y
  | [a], _ => by simp [minL]
  | a :: b :: l, _ => by
    obtain ⟨h1, h2⟩ := minL_spec (l := b :: l) (by simp)
    unfold minL
    refine ⟨?_, fun y hy => ?_⟩
    · rcases Int.le_total a (minL (b :: l)) with q | q
      · rw [Int.min_eq_left q]; exact List.mem_cons_self ..
      · rw [Int.min_eq_right q]; exact List.mem_cons_of_mem _ h1
    · rcases List.mem_cons.mp hy with rfl | hy
      · omega
      · have := h2 y hy; omega

@[simp] theorem l_maxL {ns : List Int} : M.lift (fMaxL [.lst (ns.map .int)]) = (M.one (.d (.int (maxL ns)))).req (0 < ns.length) := M.ext fun μ P => by
  rw [wp_lift, wp_req, wp_one]
  refine propext ⟨fun ⟨R, h, i⟩ => ?_, fun ⟨h1, h⟩ => ⟨fun s => s = .d (.int (maxL ns)), ?_, fun s e => by rw [e]; exact h⟩⟩
  · unfold fMaxL at h
    rw [fInts_lst] at h
    obtain ⟨q1, q2⟩ := maxL_spec (l := ns) (by intro z; rw [z] at h; simp at h)
    exact ⟨h.1, i _ (h.2 _ q1 q2)⟩
  · unfold fMaxL
    rw [fInts_lst]
    obtain ⟨q1, q2⟩ := maxL_spec (l := ns) (by intro z; rw [z] at h1; simp at h1)
    exact ⟨h1, fun m a b => by rw [Int.le_antisymm (q2 m a) (b _ q1)]⟩

@[simp] theorem l_minL {ns : List Int} : M.lift (fMinL [.lst (ns.map .int)]) = (M.one (.d (.int (minL ns)))).req (0 < ns.length) := M.ext fun μ P => by
  rw [wp_lift, wp_req, wp_one]
  refine propext ⟨fun ⟨R, h, i⟩ => ?_, fun ⟨h1, h⟩ => ⟨fun s => s = .d (.int (minL ns)), ?_, fun s e => by rw [e]; exact h⟩⟩
  · unfold fMinL at h
    rw [fInts_lst] at h
    obtain ⟨q1, q2⟩ := minL_spec (l := ns) (by intro z; rw [z] at h; simp at h)
    exact ⟨h.1, i _ (h.2 _ q1 q2)⟩
  · unfold fMinL
    rw [fInts_lst]
    obtain ⟨q1, q2⟩ := minL_spec (l := ns) (by intro z; rw [z] at h1; simp at h1)
    exact ⟨h1, fun m a b => by rw [Int.le_antisymm (b _ q1) (q2 m a)]⟩

/-! ### kinds of data: an encoding that == reads back -/

class En (α : Type) [DecidableEq α] where
  d : α → D
  dep : Nat
  eqb : ∀ a b, D.eqb (d a) (d b) = decide (a = b)
  py : ∀ a, (d a).isPy = true ∧ (d a).py.canLay0 = true ∧ (d a).py.depth ≤ dep

theorem pysAll {α : Type} [DecidableEq α] [En α] : ∀ xs : List α, D.arePy (xs.map En.d) = true ∧ PyData.canLayAll0 (D.pys (xs.map En.d)) = true ∧ PyData.depthAll (D.pys (xs.map En.d)) ≤ En.dep α
  | [] => ⟨rfl, rfl, Nat.zero_le _⟩
  | x :: xs => by
    obtain ⟨a, b, c⟩ := En.py x
    obtain ⟨a', b', c'⟩ := pysAll xs
    refine ⟨by simp only [List.map_cons, D.arePy, a, a', Bool.and_self], by simp only [List.map_cons, D.pys, PyData.canLayAll0, b, b', Bool.and_self], ?_⟩
    simp only [List.map_cons, D.pys, PyData.depthAll]; omega

instance : En Int := ⟨.int, 0, eqb_int, fun _ => ⟨rfl, rfl, Nat.le_refl _⟩⟩

instance : En Bool := ⟨.bl, 0, fun a b => by cases a <;> cases b <;> simp [D.eqb, D.py, PyData.eqv], fun _ => ⟨rfl, rfl, Nat.le_refl _⟩⟩

instance {α : Type} [DecidableEq α] [En α] : En (List α) := ⟨fun xs => .tup (xs.map En.d), En.dep α + 1, fun a b => eqb_tupM En.eqb a b, fun xs => by
  obtain ⟨a, b, c⟩ := pysAll xs
  exact ⟨a, by simpa only [D.py, PyData.canLay0] using b, by simp only [D.py, PyData.depth]; omega⟩⟩

theorem eqb_tup2 {α β : Type} [DecidableEq α] [DecidableEq β] {f : α → D} {g : β → D} (hf : ∀ a b, D.eqb (f a) (f b) = decide (a = b)) (hg : ∀ a b, D.eqb (g a) (g b) = decide (a = b)) (p q : α × β) : D.eqb (.tup [f p.1, g p.2]) (.tup [f q.1, g q.2]) = decide (p = q) := by
  have e1 := hf p.1 q.1
  have e2 := hg p.2 q.2
  simp only [D.eqb] at e1 e2
  simp only [D.eqb, D.py, D.pys, PyData.eqv, PyData.eqvAll, e1, e2, Bool.and_true]
  obtain ⟨a, b⟩ := p
  obtain ⟨c, d⟩ := q
  rw [← Bool.decide_and]
  exact decide_eq_decide.mpr (by simp)

instance {α β : Type} [DecidableEq α] [DecidableEq β] [En α] [En β] : En (α × β) := ⟨fun p => .tup [En.d p.1, En.d p.2], max (En.dep α) (En.dep β) + 1, fun p q => eqb_tup2 En.eqb En.eqb p q, fun p => by
  obtain ⟨a, b, c⟩ := En.py p.1
  obtain ⟨a', b', c'⟩ := En.py p.2
  refine ⟨by simp only [D.isPy, D.arePy, a, a', Bool.and_self], by simp only [D.py, D.pys, PyData.canLay0, PyData.canLayAll0, b, b', Bool.and_self], ?_⟩
  simp only [D.py, D.pys, PyData.depth, PyData.depthAll]; omega⟩

section

variable [DecidableEq α] [En α]

theorem en_ok (h : En.dep α ≤ 60) (a : α) : (En.d a).okEq = true := by
  obtain ⟨a, b, c⟩ := En.py a
  simp only [D.okEq, a, SeqAt.shaped, b, Bool.true_and, decide_eq_true_eq]
  omega

theorem en_okL (h : En.dep α ≤ 59) (xs : List α) : (D.lst (xs.map En.d)).okEq = true := by
  obtain ⟨a, b, c⟩ := pysAll xs
  simp only [D.okEq, D.isPy, D.py, SeqAt.shaped, PyData.canLay0, PyData.depth, a, b, Bool.true_and, decide_eq_true_eq]
  omega

theorem l_eqEn (h : En.dep α ≤ 60) {a b : α} : M.lift (fEq (En.d a) (En.d b)) = M.one (.d (.bl (decide (a = b)))) := lift_one fun R => by
  unfold fEq; rw [En.eqb, D.cmpOk, en_ok h, en_ok h]; simp

theorem l_neEn (h : En.dep α ≤ 60) {a b : α} : M.lift (fNe (En.d a) (En.d b)) = M.one (.d (.bl (!decide (a = b)))) := lift_one fun R => by
  unfold fNe; rw [En.eqb, D.cmpOk, en_ok h, en_ok h]; simp

theorem l_eqEnL (h : En.dep α ≤ 59) {a b : List α} : M.lift (fEq (.lst (a.map En.d)) (.lst (b.map En.d))) = M.one (.d (.bl (decide (a = b)))) := lift_one fun R => by
  unfold fEq; rw [eqb_lstM En.eqb, D.cmpOk, en_okL h, en_okL h]; simp

theorem l_neEnL (h : En.dep α ≤ 59) {a b : List α} : M.lift (fNe (.lst (a.map En.d)) (.lst (b.map En.d))) = M.one (.d (.bl (!decide (a = b)))) := lift_one fun R => by
  unfold fNe; rw [eqb_lstM En.eqb, D.cmpOk, en_okL h, en_okL h]; simp

end

@[simp] theorem l_eqTI {a b : List Int} : M.lift (fEq (tI a) (tI b)) = M.one (.d (.bl (decide (a = b)))) := l_eqEn (α := List Int) (by decide)

@[simp] theorem l_neTI {a b : List Int} : M.lift (fNe (tI a) (tI b)) = M.one (.d (.bl (!decide (a = b)))) := l_neEn (α := List Int) (by decide)

@[simp] theorem l_neTI1 {a : List Int} {i : Int} : M.lift (fNe (tI a) (.tup [.int i])) = M.one (.d (.bl (!decide (a = [i])))) := l_neTI (b := [i])

@[simp] theorem l_eqTI1 {a : List Int} {i : Int} : M.lift (fEq (tI a) (.tup [.int i])) = M.one (.d (.bl (decide (a = [i])))) := l_eqTI (b := [i])

@[simp] theorem l_eqGI {a b : List Int} : M.lift (fEq (gI a) (gI b)) = M.one (.d (.bl (decide (a = b)))) := l_eqEnL (α := Int) (by decide)

@[simp] theorem l_neGI {a b : List Int} : M.lift (fNe (gI a) (gI b)) = M.one (.d (.bl (!decide (a = b)))) := l_neEnL (α := Int) (by decide)

/-! ### in -/

theorem any_int {ns : List Int} {x : Int} : ((ns.map D.int).any fun z => D.eqb z (.int x)) = decide (x ∈ ns) := by
  induction ns with
  | nil => simp
  | cons a l ih => simp only [List.map_cons, List.any_cons, ih, eqb_int, List.mem_cons]; rw [← Bool.decide_or]; exact decide_eq_decide.mpr (by constructor <;> rintro (h | h) <;> simp [h])

theorem all_scl_int {ns : List Int} : (ns.map D.int).all D.scl = true := by simp [D.scl]

theorem l_in {d : D} {x : Int} {ns : List Int} (e : d.items = some (ns.map .int)) : M.lift (fIn (.int x) d) = M.one (.d (.bl (decide (x ∈ ns)))) := lift_one fun R => by
  unfold fIn
  rw [e]
  exact propext ⟨fun ⟨ds, e, _, _, h⟩ => by cases e; rw [any_int] at h; exact h, fun h => ⟨_, rfl, rfl, all_scl_int, by rw [any_int]; exact h⟩⟩

theorem l_nin {d : D} {x : Int} {ns : List Int} (e : d.items = some (ns.map .int)) : M.lift (fNin (.int x) d) = M.one (.d (.bl (!decide (x ∈ ns)))) := lift_one fun R => by
  unfold fNin
  rw [e]
  exact propext ⟨fun ⟨ds, e, _, _, h⟩ => by cases e; rw [any_int] at h; exact h, fun h => ⟨_, rfl, rfl, all_scl_int, by rw [any_int]; exact h⟩⟩

@[simp] theorem l_inT {x : Int} {ns : List Int} : M.lift (fIn (.int x) (.tup (ns.map .int))) = M.one (.d (.bl (decide (x ∈ ns)))) := l_in rfl

@[simp] theorem l_inL {x : Int} {ns : List Int} : M.lift (fIn (.int x) (.lst (ns.map .int))) = M.one (.d (.bl (decide (x ∈ ns)))) := l_in rfl

@[simp] theorem l_ninT {x : Int} {ns : List Int} : M.lift (fNin (.int x) (.tup (ns.map .int))) = M.one (.d (.bl (!decide (x ∈ ns)))) := l_nin rfl

@[simp] theorem l_ninL {x : Int} {ns : List Int} : M.lift (fNin (.int x) (.lst (ns.map .int))) = M.one (.d (.bl (!decide (x ∈ ns)))) := l_nin rfl

/-! ### all, any of tests -/

@[simp] theorem l_allM {p : α → Bool} {l : List α} : M.lift (fAll [.lst (l.map fun a => .bl (p a))]) = M.one (.d (.bl (l.all p))) := lift_one fun R => all_map

@[simp] theorem l_anyM {p : α → Bool} {l : List α} : M.lift (fAny [.lst (l.map fun a => .bl (p a))]) = M.one (.d (.bl (l.any p))) := lift_one fun R => any_map

/-! ### sizes of ints -/

theorem mulOk_l {a b : Int} (h : -(2 ^ 64) < a ∧ a < 2 ^ 64) : MulOk a b := .inl (.inl h)

theorem mulOk_r {a b : Int} (h : -(2 ^ 64) < b ∧ b < 2 ^ 64) : MulOk a b := .inl (.inr h)

theorem log_of {a : Int} {n : Nat} (h : a.natAbs < 2 ^ n) (hn : 0 < n) : a.natAbs.log2 < n := by
  by_cases z : a.natAbs = 0
  · rw [z]; simpa using hn
  · exact (Nat.log2_lt z).mpr h

theorem divOk_w {a b : Int} (n : Nat) (h0 : 0 < b) (h : b.natAbs < 2 ^ n) (hn : 0 < n) (hs : n ≤ 9000) : DivOk a b := .inr ⟨h0, by have := log_of h hn; omega⟩

theorem divOk_n {a b : Int} (h0 : b ≠ 0) (h : b.natAbs < 1073741824) : DivOk a b := .inl ⟨h0, h⟩

end

end DL








/-! ML9: own classes as computations. -/

namespace DL

open PySem PySem.Spec L2

section

variable {α β γ : Type}

def optM (o : Option α) (k : α → M β) : M β := match o with
  | some a => k a
  | none => M.bad

@[simp ↓] theorem optM_some {a : α} {k : α → M β} : optM (some a) k = k a := rfl

@[simp ↓] theorem optM_none {k : α → M β} : optM none k = M.bad := rfl

theorem wp_optM {o : Option α} {k : α → M β} {μ : Mem} {P : β → Mem → Prop} : (optM o k).wp μ P = ∃ a, o = some a ∧ (k a).wp μ P := by
  cases o with
  | none => exact propext ⟨fun h => False.elim h, fun ⟨_, h, _⟩ => by cases h⟩
  | some a => exact propext ⟨fun h => ⟨a, rfl, h⟩, fun ⟨b, e, h⟩ => by cases e; exact h⟩

@[simp] theorem ask_const {m : M α} : M.ask (fun _ => m) = m := rfl

@[simp] theorem any_const {ι : Type} {m : M α} [Nonempty ι] : ((M.any fun _ : ι => True).bind fun _ => m) = m := M.ext fun μ P => by
  rw [wp_bind, wp_any]
  exact propext ⟨fun h => h (Classical.choice inferInstance) trivial, fun h _ _ => h⟩

end

@[simp] theorem fsOf_ins {C : Str} {fs : List (Str × D)} {μ : Mem} : (D.ins C fs).fsOf C μ = some fs := by unfold D.fsOf; exact if_pos rfl

theorem ofString_inj' {a b : String} (h : Str.ofString a = Str.ofString b) : a = b := by
  rw [Str.ofString_eq_toList, Str.ofString_eq_toList] at h
  have h1 : (a.toList.map Char.toNat).toArray = (b.toList.map Char.toNat).toArray := congrArg Str.cps h
  have h2 : a.toList.map Char.toNat = b.toList.map Char.toNat := by simpa using h1
  have h3 : a.toList = b.toList := mapInj (fun x y e => Char.ext (UInt32.toNat_inj.mp e)) h2
  exact String.toList_inj.mp h3

@[simp] theorem ofString_inj {a b : String} : (Str.ofString a = Str.ofString b) = (a = b) := propext ⟨ofString_inj', fun h => by rw [h]⟩

@[simp] theorem lookup_S {α : Type} {a b : String} {v : α} {l : List (Str × α)} : List.lookup (Str.ofString a) ((Str.ofString b, v) :: l) = if a = b then some v else List.lookup (Str.ofString a) l := by
  rw [List.lookup_cons]
  by_cases h : a = b
  · subst h; rw [if_pos rfl]; simp
  · rw [if_neg h]
    have : (Str.ofString a == Str.ofString b) = false := by
      rw [Bool.eq_false_iff]; intro q; exact h (ofString_inj' (eq_of_beq q))
    rw [this]

@[simp] theorem putA_nil {f : Str} {v : D} : putA f v [] = [(f, v)] := rfl

@[simp] theorem putA_S {a b : String} {v x : D} {l : List (Str × D)} : putA (Str.ofString a) v ((Str.ofString b, x) :: l) = if b = a then (Str.ofString b, v) :: l else (Str.ofString b, x) :: putA (Str.ofString a) v l := by
  show (if Str.ofString b = Str.ofString a then _ else _) = _
  by_cases h : b = a
  · rw [if_pos h, if_pos (by rw [h])]
  · rw [if_neg h, if_neg (fun e => h (ofString_inj' e))]

/-! ### constructs -/

section

variable {X : Cx} {G : Gx} {T : WX} {a b c e o value : Expr} {ma mb mo : EM S} {mu mk : EM (List D)} {pos pos' p apos cpos : Pos} {i k j : Nat} {f C m : Str} {ps : List Str} {es : List Expr} {kws : List Keyword} {p0 : Str}

def mFld (C f : Str) (ma : EM S) : EM S := fun ρ => bindE (ma ρ) fun x ρ1 => M.ask fun μ => optM (x.frz.fsOf C μ) fun fs => optM (fs.lookup f) fun v => ok (.d v) ρ1

theorem tw_fld : tw (mFld C f ma) = wFld C f (tw ma) := by
  funext Z ρ R
  simp only [tw, mFld, twE, wp_ask, wp_optM, wp_ok, oc_v, wFld, fldGet]
  congr 1
  funext r μ
  congr 1
  funext x
  exact propext ⟨fun ⟨fs, h1, v, h2, h3⟩ => ⟨fs, v, h1, h2, h3⟩, fun ⟨fs, v, h1, h2, h3⟩ => ⟨fs, h1, v, h2, h3⟩⟩

theorem qe_fld (C : Str) (hG : G.W.g = X.mg) (F : FldX X.K X.mg C f) (ha : QE X G T a ma) (hb : attributeBase a f X.env (eval a X.env) = eval a X.env := by rfl) : QE X G T (.Attribute a f pos) (mFld C f ma) := by
  unfold QE; rw [tw_fld]; exact de_fld C hG F ha hb

def fldV (C f : Str) (o : Option (Option S)) (ρ : Sl) : ME S := match o with
  | some (some (.oins _ C' fs)) => (optM (fs.lookup f) fun v => ok (.d v) ρ).req (C' = C)
  | _ => M.bad

@[simp ↓] theorem fldV_o {q : Addr} {C' : Str} {fs : List (Str × D)} {ρ : Sl} : fldV C f (some (some (.oins q C' fs))) ρ = (optM (fs.lookup f) fun v => ok (.d v) ρ).req (C' = C) := rfl

def mFldV (C f : Str) (i : Nat) : EM S := fun ρ => fldV C f ρ[i]? ρ

def stF (C f : Str) (i : Nat) (x : D) (o : Option (Option S)) (ρ : Sl) : MS := match o with
  | some (some (.oins q C' fs)) => (nx (ρ.set i (some (.oins q C (putA f x fs))))).req (C' = C ∧ fs.length < 1000)
  | _ => M.bad

@[simp ↓] theorem stF_o {q : Addr} {C' : Str} {fs : List (Str × D)} {ρ : Sl} {x : D} : stF C f i x (some (some (.oins q C' fs))) ρ = (nx (ρ.set i (some (.oins q C (putA f x fs))))).req (C' = C ∧ fs.length < 1000) := rfl

def mStF (C f : Str) (i : Nat) (ma : EM S) : SM := fun ρ => (bindES (ma ρ) fun x ρ1 => stF C f i x.frz ρ1[i]? ρ1).req (∃ s, ρ[i]? = some (some s))

theorem qs_stF (C : Str) (i : Nat) {x : Str} (hG : G.W.g = X.mg) (F : FldX X.K X.mg C f) (hv' : QE X G T value ma) (hs : swapsWith value (some (.Attribute (.Name x p) f pos')) pos.line X.env = pure false := by rfl) (hN : X.N[i]? = some x := by rfl) (hv : Vis X.env.scope x := by first | exact Or.inl rfl | exact Or.inr (Or.inl rfl) | exact Or.inr (Or.inr rfl)) (hd : (x == ("__debug__" : Str)) = false := by decide)
    (hcd : (x == ("__classdict__" : Str)) = false := by decide) : QS X G T (.Assign [.Attribute (.Name x p) f pos'] value pos) (mStF C f i ma) :=
  ds_mono (ds_stF C i hG F hv' hs hN hv hd hcd) fun E ρ h => by
    unfold ts mStF at h
    rw [wp_req, twS] at h
    refine ⟨h.1, (ma ρ.sl).mono (fun r μ h => ?_) h.2⟩
    obtain ⟨r, σ⟩ := r
    cases r with
    | x e => exact h
    | v x =>
      simp only [oc_v] at h ⊢
      unfold stF at h
      split at h
      · rename_i q C' fs e
        try rw [e]
        exact ⟨h.1.1, h.1.2, h.2⟩
      · exact False.elim h

def stC (C f : Str) (x y : D) (μ : Mem) (ρ : Sl) : MS := match y with
  | .cell j => optM μ[j]? fun c => (M.upd (fun μ => μ.set j ⟨C, putA f x c.fs⟩) (nx ρ)).req (c.cls = C ∧ c.fs.length < 1000)
  | _ => M.bad

@[simp ↓] theorem stC_c {x : D} {j : Nat} {μ : Mem} {ρ : Sl} : stC C f x (.cell j) μ ρ = optM μ[j]? fun c => (M.upd (fun μ => μ.set j ⟨C, putA f x c.fs⟩) (nx ρ)).req (c.cls = C ∧ c.fs.length < 1000) := rfl

def mStC (C f : Str) (mo ma : EM S) : SM := fun ρ => bindES (ma ρ) fun x ρ1 => bindES (mo ρ1) fun y ρ2 => M.ask fun μ => stC C f x.frz y.frz μ ρ2

/-- a property's answer: it raises nothing -/
def putN (m : M (Oc S)) (ρ : Sl) : ME S := m.bind fun r => r.elim (fun s => ok s ρ) fun _ => M.bad

section

variable {α : Type} {ρ : Sl} {s : S} {x : Exn} {c : Prop} [Decidable c]

@[simp ↓] theorem putN_val : putN (val s) ρ = ok s ρ := rfl

@[simp ↓] theorem putN_exn : putN (exn x) ρ = M.bad := rfl

@[simp ↓] theorem putN_bind {m : M α} {f : α → M (Oc S)} : putN (m.bind f) ρ = m.bind fun x => putN (f x) ρ := rfl

@[simp ↓] theorem putN_req {m : M (Oc S)} {p : Prop} : putN (m.req p) ρ = (putN m ρ).req p := rfl

@[simp ↓] theorem putN_bad : putN (M.bad : M (Oc S)) ρ = M.bad := rfl

@[simp ↓] theorem putN_ite {m n : M (Oc S)} : putN (if c then m else n) ρ = if c then putN m ρ else putN n ρ := by split <;> rfl

@[simp ↓] theorem putN_ask {f : Mem → M (Oc S)} : putN (M.ask f) ρ = M.ask fun μ => putN (f μ) ρ := rfl

@[simp ↓] theorem putN_upd {g : Mem → Mem} {m : M (Oc S)} : putN (M.upd g m) ρ = M.upd g (putN m ρ) := rfl

theorem tw_putN {m : M (Oc S)} {Z : ZK} {μ : Mem} {R : S → Rho → Prop} : (putN m ρ).wp μ (fun r μ => r.1.elim (fun a => R a ⟨r.2, μ⟩) fun e => Z e ⟨r.2, μ⟩) = m.wp μ fun r μ => r.elim (fun a => R a ⟨ρ, μ⟩) fun e => False := by
  unfold putN
  rw [wp_bind]
  congr 1
  funext r μ1
  cases r <;> rfl

end

def mProp (C : Str) (g : FM) (ma : EM S) : EM S := fun ρ => bindE (ma ρ) fun x ρ1 => M.ask fun μ => optM (x.frz.fsOf C μ) fun _ => putN (g [x.frz]) ρ1

theorem tw_prop {g : FM} : tw (mProp C g ma) = wProp C (tf g) (tw ma) := by
  funext Z ρ R
  simp only [tw, mProp, twE, wp_ask, wp_optM, tw_putN, wProp, tf]
  congr 1
  funext r μ
  congr 1
  funext x
  exact propext ⟨fun ⟨fs, h1, h2⟩ => ⟨⟨fs, h1⟩, h2⟩, fun ⟨⟨fs, h1⟩, h2⟩ => ⟨fs, h1, h2⟩⟩

theorem qe_prop {g : FM} (Cx : CxG X T k) (hG : G.W.g = X.mg) (F : DfP X.prog X.w X.K X.mg X.base j C f ps (tf g)) (hps : ps.length = 1) (hj : j + 1 ≤ k) (ha : QE X G T a ma) (hb : attributeBase a f X.env (eval a X.env) = eval a X.env := by rfl) : QE X G T (.Attribute a f pos) (mProp C g ma) := by
  unfold QE; rw [tw_prop]; exact de_prop Cx hG F hps hj ha hb

def mMeth (C m : Str) (n : Nat) (g : FM) (mo : EM S) (mu : EM (List D)) : EM S := fun ρ => bindE (mo ρ) fun x ρ1 => M.ask fun μ => optM (x.frz.fsOf C μ) fun fs => (bindE (mu ρ1) fun ds ρ2 => (put (g (x.frz :: ds)) ρ2).req (ds.length + 1 = n)).req (fs.lookup m = none)

theorem tw_meth {n : Nat} {g : FM} : tw (mMeth C m n g mo mu) = wMeth C m n (tf g) (tw mo) (tw mu) := by
  funext Z ρ R
  simp only [tw, mMeth, twE, wp_ask, wp_optM, wp_req, tw_put, wMeth, tf]
  congr 1
  funext r μ
  congr 1
  funext x
  exact propext ⟨fun ⟨fs, h1, h2, h3⟩ => ⟨⟨fs, h1, h2⟩, h3⟩, fun ⟨⟨fs, h1, h2⟩, h3⟩ => ⟨fs, h1, h2, h3⟩⟩

theorem qe_meth {nps : Nat} {qual : Str} {st : Stmt} {pl : Sem Bool} {g : FM} (Cx : CxG X T k) (hG : G.W.g = X.mg) (F : DfM X.prog X.w X.K X.mg X.base j C m qual st ps (tf g)) (hj : j ≤ k) (ho : QE X G T o mo) (ha : QA X G T (e :: es) mu)
    (hst : starEach (e :: es) X.env = (false, eval e X.env) :: starEach es X.env := by rfl) (hpl : (backTo pos (starEach es X.env)).any (·.1) = false := by rfl)
    (ht : eval (.Call (.Attribute o m apos) (e :: es) [] pos) X.env = (do
      let ov ← eval o X.env
      standAt apos.atName
      let (f, first) ← holding [ov] (getMethod ov m pl)
      callWith pos f first (backTo pos (starEach (e :: es) X.env)) (backToKw pos (keywordEach [] X.env))) := by rfl) (hnps : ps.length = nps := by rfl) :
    QE X G T (.Call (.Attribute o m apos) (e :: es) [] pos) (mMeth C m nps g mo mu) := by
  subst hnps
  unfold QE; rw [tw_meth]; exact de_meth Cx hG F hj ho ha hst hpl ht

def mMethK (C m : Str) (n n1 n2 : Nat) (is : List Nat) (g : FM) (mo : EM S) (mu mk : EM (List D)) : EM S := fun ρ => bindE (mo ρ) fun x ρ1 => M.ask fun μ => optM (x.frz.fsOf C μ) fun fs => (bindE (mu ρ1) fun ds ρ2 => (bindE (mk ρ2) fun es ρ3 => (put (g (permL .non is (x.frz :: (ds ++ es)))) ρ3).req (es.length = n2 ∧ (permL .non is (x.frz :: (ds ++ es))).length = n ∧ ∀ i ∈ is, i < (x.frz :: (ds ++ es)).length)).req (ds.length = n1)).req (fs.lookup m = none)

/-! ### C(..) -/

def mkS (cell : Bool) (C : Str) (s : S) : M (Oc S) := match s with
  | .d (.ins _ fs) => if cell = true then M.ask fun μ => M.upd (fun μ => μ ++ [⟨C, fs⟩]) (val (.d (.cell μ.length))) else val s
  | _ => M.bad

@[simp ↓] theorem mkS_f {C' : Str} {fs : List (Str × D)} : mkS false C (.d (.ins C' fs)) = val (.d (.ins C' fs)) := rfl

@[simp ↓] theorem mkS_c {C' : Str} {fs : List (Str × D)} : mkS true C (.d (.ins C' fs)) = M.ask fun μ => M.upd (fun μ => μ ++ [⟨C, fs⟩]) (val (.d (.cell μ.length))) := rfl

def mkM (cell : Bool) (C : Str) (g : FM) : FM := fun ds => bindR (g ds) (mkS cell C)

theorem tf_mk {cell : Bool} {g : FM} : tf (mkM cell C g) = WF.mk cell C (tf g) := by
  funext Z ds μ R
  unfold tf WF.mk mkM bindR
  rw [wp_bind]
  congr 1
  funext r μ1
  cases r with
  | x e => rfl
  | v s =>
    dsimp only [oc_v]
    cases s with
    | d d =>
      cases d with
      | ins C' fs =>
        cases cell <;> rfl
      | _ => rfl
    | _ => rfl

theorem qe_make {nps : Nat} {x qual : Str} {st : Stmt} {g : FM} (cell : Bool) (Cx : CxG X T k) (hG : G.W.g = X.mg) (F : DfI X.prog X.w X.K X.mg X.base j x qual st (p0 :: ps) (tf g)) (hj : j + 1 ≤ k) (ha : QA X G T (e :: es) mu)
    (hg : Gl X x := by rfl) (hdb : (x == ("__debug__" : Str)) = false := by decide) (he : starEach (e :: es) X.env = (false, eval e X.env) :: starEach es X.env := by rfl) (hpl : (backTo pos (starEach es X.env)).any (·.1) = false := by rfl) (hnps : ps.length = nps := by rfl) :
    QE X G T (.Call (.Name x p) (e :: es) [] pos) (mCall nps (mkM cell x g) mu) := by
  subst hnps
  unfold QE; rw [tw_call, tf_mk]; exact de_make cell Cx hG F hj ha hg hdb he hpl

/-! ### classmethods, isinstance, classes as values -/

def mCMeth (C : Str) (n : Nat) (g : FM) (mu : EM (List D)) : EM S := mCall n (fun ds => g (.cls C :: ds)) mu

theorem qe_cmethK {nps nx2 : Nat} {qual : Str} {st : Stmt} {pl : Sem Bool} {g : FM} (is : List Nat) (ks : List Str) (Cx : CxG X T k) (hG : G.W.g = X.mg) (F : DfC X.prog X.w X.K X.mg X.base j C m qual st (p0 :: ps) (tf g)) (hj : j ≤ k) (hkw : QK X G T kws mk)
    (hbi : ∀ (kV doc pm : Value) (an : Option Addr) (cdv ct : Value) (x : Value) (ws : List Value), ws.length = ks.length → bindArgs (PySem.W.fnOf m qual (defArgs st) (defBody st) (defScope st) .none kV doc pm an cdv ct) ⟨[x], ks.zip ws⟩ = pure ((p0 :: ps).zip (x :: permL .none is ws)))
    (hall : (backToKw pos (keywordEach kws X.env)).all (·.1.isSome) = true := by rfl) (hks : (backToKw pos (keywordEach kws X.env)).filterMap (·.1) = ks := by rfl)
    (hgl : Gl X C := by rfl) (hdb : (C == ("__debug__" : Str)) = false := by decide)
    (hpl : ((backTo pos (starEach [] X.env)).any (·.1) || (backToKw pos (keywordEach kws X.env)).any (·.1.isNone)) = false := by rfl)
    (ht : eval (.Call (.Attribute (.Name C p) m apos) [] kws pos) X.env = (do
      let ov ← eval (.Name C p) X.env
      standAt apos.atName
      let (f, first) ← holding [ov] (getMethod ov m pl)
      callWith pos f first (backTo pos (starEach [] X.env)) (backToKw pos (keywordEach kws X.env))) := by rfl) (hnps : ps.length = nps := by rfl) (hnx2 : ks.length = nx2 := by rfl) :
    QE X G T (.Call (.Attribute (.Name C p) m apos) [] kws pos) (mCallK nps 0 nx2 is (fun ds => g (.cls C :: ds)) mNil mk) := by
  subst hnps; subst hnx2
  unfold QE; rw [tw_callK]
  exact de_mono (de_cmethK is ks Cx hG F hj hkw hbi hall hks hgl hdb hpl ht) fun Z ρ R h => h.2

def isiM (C : Str) (Cs : List Str) (x : D) (μ : Mem) (ρ : Sl) : ME S := match x.own μ with
  | some C' => (ok (.d (.bl (C' == C))) ρ).req (C' ∈ Cs)
  | none => (ok (.d (.bl false)) ρ).req (x.known = true)

@[simp] theorem isiM_ins {Cs : List Str} {C' : Str} {fs : List (Str × D)} {μ : Mem} {ρ : Sl} : isiM C Cs (.ins C' fs) μ ρ = (ok (.d (.bl (C' == C))) ρ).req (C' ∈ Cs) := by unfold isiM D.own; rfl

def mIsiC (C : Str) (Cs : List Str) (ma : EM S) : EM S := fun ρ => bindE (ma ρ) fun x ρ1 => M.ask fun μ => isiM C Cs x.frz μ ρ1

end

/-! ### an __init__ -/

def selfM (p : Addr) (C : Str) (o : Option (Option S)) : M (Oc S) := match o with
  | some (some (.oins q C' fs)) => (val (.d (.ins C fs))).req (q = p ∧ C' = C)
  | _ => M.bad

@[simp ↓] theorem selfM_o {p q : Addr} {C C' : Str} {fs : List (Str × D)} : selfM p C (some (some (.oins q C' fs))) = (val (.d (.ins C fs))).req (q = p ∧ C' = C) := rfl

def outI (p : Addr) (C : Str) (m : MS) : M (Oc S) := m.bind fun r => match r.1 with
  | .nx => selfM p C r.2[0]?
  | .ex e => exn e
  | _ => M.bad

section

variable {α : Type} {p : Addr} {C : Str} {ρ : Sl} {s : S} {x : Exn} {c : Prop} [Decidable c]

@[simp ↓] theorem outI_nx : outI p C (nx ρ) = selfM p C ρ[0]? := rfl

@[simp ↓] theorem outI_ex : outI p C (ex x ρ) = exn x := rfl

@[simp ↓] theorem outI_bind {m : M α} {f : α → MS} : outI p C (m.bind f) = m.bind fun x => outI p C (f x) := rfl

@[simp ↓] theorem outI_req {m : MS} {q : Prop} : outI p C (m.req q) = (outI p C m).req q := rfl

@[simp ↓] theorem outI_bad : outI p C M.bad = M.bad := rfl

@[simp ↓] theorem outI_ite {m n : MS} : outI p C (if c then m else n) = if c then outI p C m else outI p C n := by split <;> rfl

@[simp ↓] theorem outI_ask {f : Mem → MS} : outI p C (M.ask f) = M.ask fun μ => outI p C (f μ) := rfl

@[simp ↓] theorem outI_upd {g : Mem → Mem} {m : MS} : outI p C (M.upd g m) = M.upd g (outI p C m) := rfl

end

def initM (b : SM) (N : List Str) (C : Str) : FM := fun ds => (M.any fun _ : Addr => True).bind fun p => outI p C (b (slI N p C ds))

section

variable {P : Program} {w : World} {K : PySem.W.Frag} {mg : Str → Option Value} {base : Heap}

/-- the text of a method, of an __init__, of a property, of a classmethod -/
def RawM (K : PySem.W.Frag) (mg : Str → Option Value) (C m qual : Str) (st : Stmt) : Prop := ∃ Ca f fd, mg C = some (.ref Ca) ∧ Cls K Ca ∧ Meth K Ca m f ∧ Fun K m qual st f fd

def RawI (K : PySem.W.Frag) (mg : Str → Option Value) (C qual : Str) (st : Stmt) : Prop := ∃ Ca f fd, mg C = some (.ref Ca) ∧ Cls K Ca ∧ Mk K Ca f ∧ Fun K "__init__" qual st f fd

def RawP (K : PySem.W.Frag) (mg : Str → Option Value) (C f qual : Str) (st : Stmt) : Prop := ∃ Ca p g fd, mg C = some (.ref Ca) ∧ Cls K Ca ∧ PropOf K Ca f p g ∧ Fun K f qual st g fd

def RawC (K : PySem.W.Frag) (mg : Str → Option Value) (C m qual : Str) (st : Stmt) : Prop := ∃ Ca mc p g fd, mg C = some (.ref Ca) ∧ ClX.CRead K Ca mc ∧ ClX.CMet K Ca mc m p g ∧ Fun K m qual st g fd

/-- the bodies' derivations -/
abbrev BodyQ (P : Program) (w : World) (K : PySem.W.Frag) (mg : Str → Option Value) (base : Heap) (k : Nat) (N : List Str) (qual : Str) (st : Stmt) (b : SM) : Prop :=
  ∀ (f : Addr) (cdv : Value) (A : Around) (outer : List PySem.Env) (s : Shared) (H H0 : Hp) (E : XK) (W : Wd), W.g = mg → CxG (cxOf (L2.CX P w) P w K mg base N qual (defScope st) f cdv A outer s H E) (fun cls d _ H => E cls d H) k →
    QSs (cxOf (L2.CX P w) P w K mg base N qual (defScope st) f cdv A outer s H E) ⟨W, H0⟩ (fun cls d _ H => E cls d H) (defBody st) b

theorem fn_q {x qual : Str} {st : Stmt} {N ps : List Str} {k : Nat} {b : SM} {f : FM} {fa : Addr} {fd : FuncData} (F : Fun K x qual st fa fd) (Sc : FnScope N ps (defScope st)) (hf : ∀ ds, ds.length = ps.length → (defM b N ds).le (f ds)) (hb : BodyQ P w K mg base k N qual st b) : FnG P w K mg base (k + 1) fa fd ps (tf f) :=
  ok_def F Sc (fun Z ds μ R hl h => by
    have q := hf ds hl μ _ h
    unfold defM at q
    rw [ts_out] at q
    exact q) fun cdv A outer s H E W hg C => hb fa cdv A outer s H H E W hg C

theorem dfm_q {C m qual : Str} {st : Stmt} {N ps : List Str} {k : Nat} {b : SM} {f : FM} (r : RawM K mg C m qual st) (Sc : FnScope N ps (defScope st))
    (hbi : ∀ (kV doc pm : Value) (an : Option Addr) (cdv ct : Value) (us : List Value), us.length = ps.length → bindArgs (PySem.W.fnOf m qual (defArgs st) (defBody st) (defScope st) .none kV doc pm an cdv ct) ⟨us, []⟩ = pure (ps.zip us))
    (hf : ∀ ds, ds.length = ps.length → (defM b N ds).le (f ds)) (hb : BodyQ P w K mg base k N qual st b) : DfM P w K mg base (k + 1) C m qual st ps (tf f) := by
  obtain ⟨Ca, fa, fd, h1, h2, h3, F⟩ := r
  exact ⟨Ca, fa, fd, h1, h2, h3, F, F.binds hbi, fn_q F Sc hf hb⟩

theorem dfp_q {C m qual : Str} {st : Stmt} {N ps : List Str} {k : Nat} {b : SM} {f : FM} (r : RawP K mg C m qual st) (Sc : FnScope N ps (defScope st))
    (hbi : ∀ (kV doc pm : Value) (an : Option Addr) (cdv ct : Value) (us : List Value), us.length = ps.length → bindArgs (PySem.W.fnOf m qual (defArgs st) (defBody st) (defScope st) .none kV doc pm an cdv ct) ⟨us, []⟩ = pure (ps.zip us))
    (hf : ∀ ds, ds.length = ps.length → (defM b N ds).le (f ds)) (hb : BodyQ P w K mg base k N qual st b) : DfP P w K mg base (k + 1) C m ps (tf f) := by
  obtain ⟨Ca, p, fa, fd, h1, h2, h3, F⟩ := r
  exact ⟨Ca, p, fa, fd, h1, h2, h3, F.binds hbi, fn_q F Sc hf hb⟩

theorem dfc_q {C m qual : Str} {st : Stmt} {N ps : List Str} {k : Nat} {b : SM} {f : FM} (r : RawC K mg C m qual st) (Sc : FnScope N ps (defScope st))
    (hbi : ∀ (kV doc pm : Value) (an : Option Addr) (cdv ct : Value) (us : List Value), us.length = ps.length → bindArgs (PySem.W.fnOf m qual (defArgs st) (defBody st) (defScope st) .none kV doc pm an cdv ct) ⟨us, []⟩ = pure (ps.zip us))
    (hf : ∀ ds, ds.length = ps.length → (defM b N ds).le (f ds)) (hb : BodyQ P w K mg base k N qual st b) : DfC P w K mg base (k + 1) C m qual st ps (tf f) := by
  obtain ⟨Ca, mc, p, fa, fd, h1, h2, h3, F⟩ := r
  exact ⟨Ca, mc, p, fa, fd, h1, h2, h3, F, F.binds hbi, fn_q F Sc hf hb⟩

theorem dfi_q {C qual : Str} {st : Stmt} {N ps : List Str} {k : Nat} {b : SM} {f : FM} (r : RawI K mg C qual st) (Sc : FnScope N ps (defScope st))
    (hbi : ∀ (kV doc pm : Value) (an : Option Addr) (cdv ct : Value) (us : List Value), us.length = ps.length → bindArgs (PySem.W.fnOf "__init__" qual (defArgs st) (defBody st) (defScope st) .none kV doc pm an cdv ct) ⟨us, []⟩ = pure (ps.zip us))
    (hf : ∀ ds, ds.length + 1 = ps.length → (initM b N C ds).le (f ds)) (hb : BodyQ P w K mg base k N qual st b) : DfI P w K mg base (k + 1) C qual st ps (tf f) := by
  obtain ⟨Ca, fa, fd, h1, h2, h3, F⟩ := r
  refine ⟨Ca, fa, fd, h1, h2, h3, F, F.binds hbi, ok_init F Sc (fun Z ds μ R p hl h => ?_) fun cdv A outer s H H0 E W hg Cx => hb fa cdv A outer s H H0 E W hg Cx⟩
  have q := hf ds hl μ _ h
  unfold initM at q
  rw [wp_bind] at q
  have q : (outI p C (b (slI N p C ds))).wp μ _ := q p trivial
  unfold outI at q
  rw [wp_bind] at q
  refine (b (slI N p C ds)).mono (fun r μ' h => ?_) q
  obtain ⟨r, ρ⟩ := r
  cases r with
  | nx =>
    dsimp only at h
    unfold selfM at h
    split at h
    · rename_i q C' fs e
      obtain ⟨⟨rfl, rfl⟩, h⟩ := h
      exact ⟨fs, e, h⟩
    · exact False.elim h
  | ex e => exact h
  | _ => exact False.elim h

end

end DL







/-! ML10: what the top has left, of classes. -/

namespace DL

open PySem PySem.Spec L2

def clsB (s : Stmt) (j : Nat) : Stmt := match s with
  | .ClassDef _ _ _ body _ _ _ _ _ _ _ => body.getD j (.Pass ⟨0, 0, 0, 0⟩)
  | _ => .Pass ⟨0, 0, 0, 0⟩

section

variable {K : PySem.W.Frag} {h : Heap} {mg : Str → Option Value} {C D f m qual : Str} {st : Stmt} {Ca Da fa pa : Addr} {od an : Option Addr} {sl : Array (Option Value)} {oc kV dc pm cd ct mc : Value} {rest : List Value}

theorem fldx_mk (X : K.In h) (G : h.Ns mainGlobals mg) (z : PySem.W.nsIn K mainGlobals C = some (some (.ref Ca)))
    (p1 : PySem.W.plainGet K Ca Str.empty = true) (p2 : PySem.W.hasDictIn K Ca = true) (p3 : PySem.W.plainOver K Ca = true) (p4 : PySem.W.findIn K (.ref Ca) "__setattr__" = some (some (.builtin "object.__setattr__")))
    (n : PySem.W.findIn K (.ref Ca) f = some none) : FldX K mg C f := ⟨Ca, PySem.W.mg_of X G z, ⟨p1, p2, p3, p4⟩, n⟩

theorem isix_mk (X : K.In h) (G : h.Ns mainGlobals mg) (z : PySem.W.nsIn K mainGlobals C = some (some (.ref Ca))) (i : PySem.W.isClsIn K Ca = true) (t : PySem.W.typeIn K (.ref Ca) = some (.type "type")) : IsiX K mg C := ⟨Ca, PySem.W.mg_of X G z, i, t⟩

theorem insx_mk (X : K.In h) (G : h.Ns mainGlobals mg) (z : PySem.W.nsIn K mainGlobals C = some (some (.ref Ca)))
    (p1 : PySem.W.plainGet K Ca Str.empty = true) (p2 : PySem.W.hasDictIn K Ca = true) (p3 : PySem.W.plainOver K Ca = true) (p4 : PySem.W.findIn K (.ref Ca) "__setattr__" = some (some (.builtin "object.__setattr__")))
    (q1 : PySem.W.findIn K (.ref Ca) "__class__" = some (some (.builtin "object.__class__"))) (q2 : PySem.W.specialIn K (.builtin "object.__class__") "__get__" = some (some (.builtin "getset_descriptor.__get__")))
    (q3 : PySem.W.takesIn K (.builtin "object.__class__") = some true) (q4 : PySem.W.mroIn K Ca (.type "object") = some true) : InsX K mg C := ⟨Ca, PySem.W.mg_of X G z, ⟨p1, p2, p3, p4⟩, q1, q2, q3, q4⟩

theorem subx_self (X : K.In h) (G : h.Ns mainGlobals mg) (z : PySem.W.nsIn K mainGlobals C = some (some (.ref Ca))) : SubX K mg C C (C == C) := by
  rw [beq_self_eq_true]; exact SubX.self (PySem.W.mg_of X G z)

theorem rawm_mk (X : K.In h) (G : h.Ns mainGlobals mg) (z : PySem.W.nsIn K mainGlobals C = some (some (.ref Ca)))
    (p1 : PySem.W.plainGet K Ca Str.empty = true) (p2 : PySem.W.hasDictIn K Ca = true) (p3 : PySem.W.plainOver K Ca = true) (p4 : PySem.W.findIn K (.ref Ca) "__setattr__" = some (some (.builtin "object.__setattr__")))
    (a : PySem.W.findIn K (.ref Ca) m = some (some (.ref fa))) (i : PySem.W.isFn K (.ref fa) = true)
    (l : K.lookup fa = some ⟨oc, od, .func (PySem.W.fnOf m qual (defArgs st) (defBody st) (defScope st) .none kV dc pm an cd ct), sl⟩) (c : PySem.W.codeIn K cd qual = true) (k : PySem.W.keepIn K (.ref fa) = true) : RawM K mg C m qual st :=
  ⟨Ca, fa, _, PySem.W.mg_of X G z, ⟨p1, p2, p3, p4⟩, ⟨a, i, k⟩, fun_mk (st := st) l c k⟩

theorem rawi_mk (X : K.In h) (G : h.Ns mainGlobals mg) (z : PySem.W.nsIn K mainGlobals C = some (some (.ref Ca)))
    (p1 : PySem.W.plainGet K Ca Str.empty = true) (p2 : PySem.W.hasDictIn K Ca = true) (p3 : PySem.W.plainOver K Ca = true) (p4 : PySem.W.findIn K (.ref Ca) "__setattr__" = some (some (.builtin "object.__setattr__")))
    (m : PySem.W.makesIn K Ca = true) (a : PySem.W.findIn K (.ref Ca) "__init__" = some (some (.ref fa))) (i : PySem.W.isFn K (.ref fa) = true) (k0 : PySem.W.keepIn K (.ref Ca) = true)
    (l : K.lookup fa = some ⟨oc, od, .func (PySem.W.fnOf "__init__" qual (defArgs st) (defBody st) (defScope st) .none kV dc pm an cd ct), sl⟩) (c : PySem.W.codeIn K cd qual = true) (k : PySem.W.keepIn K (.ref fa) = true) : RawI K mg C qual st :=
  ⟨Ca, fa, _, PySem.W.mg_of X G z, ⟨p1, p2, p3, p4⟩, ⟨m, a, i, k0⟩, fun_mk (st := st) l c k⟩

theorem rawp_mk (X : K.In h) (G : h.Ns mainGlobals mg) (z : PySem.W.nsIn K mainGlobals C = some (some (.ref Ca)))
    (p1 : PySem.W.plainGet K Ca Str.empty = true) (p2 : PySem.W.hasDictIn K Ca = true) (p3 : PySem.W.plainOver K Ca = true) (p4 : PySem.W.findIn K (.ref Ca) "__setattr__" = some (some (.builtin "object.__setattr__")))
    (a : PySem.W.findIn K (.ref Ca) m = some (some (.ref pa))) (g : PySem.W.specialIn K (.ref pa) "__get__" = some (some (.builtin "property.__get__"))) (t : PySem.W.takesIn K (.ref pa) = some true)
    (rc : PySem.W.recIn K pa "property" = some (.ref fa :: rest))
    (l : K.lookup fa = some ⟨oc, od, .func (PySem.W.fnOf m qual (defArgs st) (defBody st) (defScope st) .none kV dc pm an cd ct), sl⟩) (c : PySem.W.codeIn K cd qual = true) (k : PySem.W.keepIn K (.ref fa) = true) : RawP K mg C m qual st :=
  ⟨Ca, pa, fa, _, PySem.W.mg_of X G z, ⟨p1, p2, p3, p4⟩, ⟨a, g, t, rest, rc⟩, fun_mk (st := st) l c k⟩

theorem rawc_mk (X : K.In h) (G : h.Ns mainGlobals mg) (z : PySem.W.nsIn K mainGlobals C = some (some (.ref Ca))) (rd : PySem.W.readsIn K Ca mc = true) (ga : PySem.W.specialIn K (.ref Ca) "__getattribute__" = some (some (.builtin "type.__getattribute__")))
    (a : PySem.W.findCls K (.ref Ca) mc m = some (.get (.builtin "classmethod.__get__") (.ref pa) .none (.ref Ca))) (rc : PySem.W.recIn K pa "classmethod" = some (.ref fa :: rest)) (fi : PySem.W.fnIn K fa = true)
    (l : K.lookup fa = some ⟨oc, od, .func (PySem.W.fnOf m qual (defArgs st) (defBody st) (defScope st) .none kV dc pm an cd ct), sl⟩) (c : PySem.W.codeIn K cd qual = true) (k : PySem.W.keepIn K (.ref fa) = true) : RawC K mg C m qual st :=
  ⟨Ca, mc, pa, fa, _, PySem.W.mg_of X G z, ⟨rd, ga⟩, ⟨a, ⟨rest, rc⟩, fi⟩, fun_mk (st := st) l c k⟩

end

end DL







/-! ML11: answers that may be any of some; loops whose end is known. -/

namespace DL

open PySem PySem.Spec L2

section

variable {α β γ : Type} {c : Prop}

theorem le_any {f : M (Oc S)} {p : α → Prop} {e : α → S} (h : c → f.sat fun r => ∃ a, p a ∧ r = .v (e a)) : f.le (((M.any p).bind fun a => val (e a)).req c) := by
  rintro μ P ⟨hc, q⟩
  exact (h hc).wp fun r ⟨a, ha, e⟩ => by subst e; exact q a ha

theorem le_val {f : M (Oc S)} {s : S} (h : c → f.sat fun r => r = .v s) : f.le ((val s).req c) := by
  rintro μ P ⟨hc, q⟩
  exact (h hc).wp fun r e => by subst e; exact q

theorem j_of {f : M (Oc S)} {μ : Mem} {P : Oc S → Mem → Prop} (h : c → f.sat fun r => ∃ x y z : Int, r = .v (.own [.int x, .int y, .int z]) ∧ (-(2 ^ 40) < y ∧ y < 2 ^ 40)) (q : ((val (.d .jar)).req c).wp μ P) :
    f.wp μ fun r μ => ∃ x y z : Int, r = .v (.own [.int x, .int y, .int z]) ∧ (-(2 ^ 40) < y ∧ y < 2 ^ 40) ∧ P (.v (.d .jar)) μ :=
  (h q.1).wp fun r ⟨x, y, z, e, b⟩ => ⟨x, y, z, e, b, q.2⟩

theorem any_list {n : Nat} {p : β → Prop} {P : List β → Prop} : (∀ x, p x → ∀ xs : List β, xs.length = n ∧ (∀ x ∈ xs, p x) → P (x :: xs)) ↔ ∀ ys : List β, ys.length = n + 1 ∧ (∀ x ∈ ys, p x) → P ys := by
  constructor
  · rintro h (_ | ⟨y, ys⟩) ⟨h1, h2⟩
    · cases h1
    · exact h y (h2 y (List.mem_cons_self ..)) ys ⟨by simpa using h1, fun x hx => h2 x (List.mem_cons_of_mem _ hx)⟩
  · rintro h x hx xs ⟨h1, h2⟩
    refine h (x :: xs) ⟨by simp [h1], fun y hy => ?_⟩
    rcases List.mem_cons.mp hy with rfl | hy
    · exact hx
    · exact h2 y hy

@[simp] theorem lcAll_any {p : β → Prop} {h : β → D} : ∀ {l : List α}, lcAll (fun _ => (M.any p).bind fun x => M.one [h x]) l = (M.any fun xs : List β => xs.length = l.length ∧ ∀ x ∈ xs, p x).bind fun xs => M.one (xs.map h)
  | [] => M.ext fun μ P => by
    simp only [lcAll_nil, wp_one, wp_bind, wp_any]
    exact propext ⟨fun q xs ⟨h1, _⟩ => by rw [List.eq_nil_of_length_eq_zero h1]; exact q, fun q => q [] ⟨rfl, by simp⟩⟩
  | a :: l => by
    rw [lcAll_cons, lcAll_any]
    refine M.ext fun μ P => ?_
    simp only [wp_one, wp_bind, wp_any]
    exact propext (any_list (P := fun ys => P (ys.map h) μ))

@[simp] theorem lcAll_anyReq {p : β → Prop} {h : β → D} {q : β → Prop} : ∀ {l : List α}, lcAll (fun _ => (M.any p).bind fun x => (M.one [h x]).req (q x)) l = (M.any fun xs : List β => xs.length = l.length ∧ ∀ x ∈ xs, p x).bind fun xs => (M.one (xs.map h)).req (∀ x ∈ xs, q x)
  | [] => M.ext fun μ P => by
    simp only [lcAll_nil, wp_one, wp_bind, wp_any, wp_req]
    exact propext ⟨fun q xs ⟨h1, _⟩ => by rw [List.eq_nil_of_length_eq_zero h1]; exact ⟨by simp, q⟩, fun q => (q [] ⟨rfl, by simp⟩).2⟩
  | a :: l => by
    rw [lcAll_cons, lcAll_anyReq]
    refine M.ext fun μ P => ?_
    simp only [wp_one, wp_bind, wp_any, wp_req]
    have := any_list (n := l.length) (p := p) (P := fun ys : List β => (∀ x ∈ ys, q x) ∧ P (ys.map h) μ)
    rw [List.length_cons, ← this]
    refine propext ⟨fun z x hx xs hxs => ?_, fun z x hx => ?_⟩
    · obtain ⟨z1, z2⟩ := z x hx
      obtain ⟨z3, z4⟩ := z2 xs hxs
      exact ⟨fun y hy => (List.mem_cons.mp hy).elim (fun e => by rw [e]; exact z1) (z3 y), z4⟩
    · by_cases e : ∃ xs : List β, xs.length = l.length ∧ ∀ x ∈ xs, p x
      · obtain ⟨xs, e⟩ := e
        refine ⟨(z x hx xs e).1 x (List.mem_cons_self ..), fun xs hxs => ⟨fun y hy => (z x hx xs hxs).1 y (List.mem_cons_of_mem _ hy), (z x hx xs hxs).2⟩⟩
      · exact absurd ⟨List.replicate l.length x, by simp, fun y hy => by rw [(List.mem_replicate.mp hy).2]; exact hx⟩ e

/-! ### loops, the cells as they are -/

variable {step : α → Sl → MS} {l : List α} {ρ : Sl} {k : Sl → MS}

def kP (k : Sl → MS) (Q : Oc S → Prop) : Fl × Sl → Prop := fun r => match r.1 with
  | .nx => (out (k r.2)).sat Q
  | .rt s => Q (.v s)
  | .ex e => Q (.x e)
  | _ => False

variable {s : S} {e : Exn} {Q : Oc S → Prop}

@[simp] theorem kP_nx : kP k Q (.nx, ρ) = (out (k ρ)).sat Q := rfl

@[simp] theorem kP_rt : kP k Q (.rt s, ρ) = Q (.v s) := rfl

@[simp] theorem kP_ex : kP k Q (.ex e, ρ) = Q (.x e) := rfl

def kM (k : Sl → MS) (r : Fl × Sl) : M (Oc S) := match r.1 with
  | .nx => out (k r.2)
  | .rt s => val s
  | .ex e => exn e
  | _ => M.bad

theorem out_bN {m : MS} : out (bindN m k) = m.bind (kM k) := M.ext fun μ P => by
  unfold out bindN kM
  simp only [wp_bind]
  congr 1
  funext ⟨r, ρ⟩ μ1
  cases r <;> rfl

theorem sat_outN {m : MS} (h : m.sat (kP k Q)) : (out (bindN m k)).sat Q := by
  rw [out_bN]
  refine M.sat.bind h fun r hr => ?_
  obtain ⟨r, ρ⟩ := r
  cases r with
  | nx => exact hr
  | rt s => exact sat_one.mpr hr
  | ex e => exact sat_one.mpr hr
  | _ => exact False.elim hr

/-- a for, by what is left -/
theorem sat_for (I : List α → Sl → Prop) (h : I l ρ) (hs : ∀ a l' ρ, I (a :: l') ρ → (step a ρ).sat (endS (kP k Q) (I l'))) (hd : ∀ ρ, I [] ρ → (out (k ρ)).sat Q) : (out (bindN (forL step l ρ) k)).sat Q :=
  sat_outN (forL_sat I h hs fun ρ h => hd ρ h)

/-- .. by what has been -/
theorem sat_forP (I : List α → Sl → Prop) (h : I [] ρ) (hs : ∀ pre a post ρ, l = pre ++ a :: post → I pre ρ → (step a ρ).sat (endS (kP k Q) (I (pre ++ [a])))) (hd : ∀ ρ, I l ρ → (out (k ρ)).sat Q) : (out (bindN (forL step l ρ) k)).sat Q := by
  refine sat_for (fun l' ρ => ∃ pre, l = pre ++ l' ∧ I pre ρ) ⟨[], rfl, h⟩ (fun a l' ρ ⟨pre, e, hi⟩ => ?_) fun ρ ⟨pre, e, hi⟩ => hd ρ (by rw [e, List.append_nil]; exact hi)
  refine (hs pre a l' ρ e hi).mono fun r hr => ?_
  obtain ⟨r, σ⟩ := r
  cases r <;> first | exact hr | exact ⟨pre ++ [a], by rw [e]; simp, hr⟩

end

/-! ### slices, powers, items at a place -/

@[simp] theorem cpow10 {j : Int} : CPow 10 j = (0 ≤ j ∧ j ≤ 1000000) := propext ⟨fun h => ⟨h.1, h.2.1⟩, fun h => ⟨h.1, h.2, by decide⟩⟩

@[simp] theorem cpow2 {j : Int} : CPow 2 j = (0 ≤ j ∧ j ≤ 1000000) := propext ⟨fun h => ⟨h.1, h.2.1⟩, fun h => ⟨h.1, h.2, by decide⟩⟩

section

variable {α β : Type} {f : α → β} {xs : List α} {i j : Int} {lo hi : Option Int}

theorem sIx_int {n d : Nat} (h : 0 ≤ i) : HT.sIx n d (some i) = min i.toNat n := by
  show (if i < 0 then (i + (n : Int)).toNat else min i.toNat n) = min i.toNat n
  rw [if_neg (by omega)]

@[simp] theorem cut_hi (h : 0 ≤ i) : cutD xs none (some i) = xs.take i.toNat := by
  unfold cutD
  rw [sIx_int h, HT.sIx_none, List.drop_zero, Nat.sub_zero]
  rcases Nat.le_total i.toNat xs.length with q | q
  · rw [Nat.min_eq_left q]
  · rw [Nat.min_eq_right q, List.take_of_length_le (Nat.le_refl _), List.take_of_length_le q]

@[simp] theorem cut_lo (h : 0 ≤ i) : cutD xs (some i) none = xs.drop i.toNat := by
  unfold cutD
  rw [sIx_int h, HT.sIx_none]
  rcases Nat.le_total i.toNat xs.length with q | q
  · rw [Nat.min_eq_left q, List.take_of_length_le (by rw [List.length_drop]; exact Nat.le_refl _)]
  · rw [Nat.min_eq_right q, List.drop_of_length_le q, List.drop_of_length_le (Nat.le_refl _), List.take_nil]

@[simp] theorem cut_all : cutD xs none none = xs := by
  unfold cutD
  rw [HT.sIx_none, HT.sIx_none, List.drop_zero, Nat.sub_zero, List.take_of_length_le (Nat.le_refl _)]

@[simp] theorem cut_butLast : cutD xs none (some (-1)) = xs.dropLast := by
  unfold cutD
  rw [HT.sIx_none]
  show (xs.drop 0).take ((-1 + (xs.length : Int)).toNat - 0) = _
  rw [List.drop_zero, List.dropLast_eq_take]
  congr 1
  omega

@[simp] theorem cut_lastOne : cutD xs (some (-1)) none = xs.drop (xs.length - 1) := by
  unfold cutD
  rw [HT.sIx_none]
  show (xs.drop (-1 + (xs.length : Int)).toNat).take (xs.length - (-1 + (xs.length : Int)).toNat) = _
  rw [List.take_of_length_le (by rw [List.length_drop]; exact Nat.le_refl _)]
  congr 1
  omega

@[simp ↓] theorem cut_mapS : cutD (xs.map f) lo hi = (cutD xs lo hi).map f := cut_map

end

theorem ixM_mem {es : List D} {a : Int} (h0 : 0 ≤ a) (h1 : a < es.length) : ∃ d ∈ es, ixM es a = M.one (.d d) := by
  have hi : a.toNat < es.length := by omega
  exact ⟨es[a.toNat], List.getElem_mem hi, ixM_some (atI_pos h0 (by rw [List.getElem?_eq_getElem hi]))⟩

theorem ixM_in {α : Type} [Inhabited α] {g : α → D} {l : List α} {i : Int} (h0 : 0 ≤ i) (h1 : i < l.length) : ixM (l.map g) i = M.one (.d (g (nth l i.toNat))) := by
  rw [ixM_int h0, req_of h1]

end DL

namespace DL

open PySem PySem.Spec L2

instance : En Nat := ⟨fun n => .int n, 0, fun a b => by
  rw [eqb_int]; exact decide_eq_decide.mpr Int.ofNat_inj, fun _ => ⟨rfl, rfl, Nat.le_refl _⟩⟩

/-- a tuple of tuples of integers -/
abbrev tL (ls : List (List Int)) : D := .tup (ls.map tI)

abbrev sD (p : Nat × Nat) : D := .tup [.int p.1, .int p.2]

/-- steps -/
abbrev tS (st : List (Nat × Nat)) : D := .tup (st.map sD)

@[simp] theorem l_eqTL {a b : List (List Int)} : M.lift (fEq (tL a) (tL b)) = M.one (.d (.bl (decide (a = b)))) := l_eqEn (α := List (List Int)) (by decide)

@[simp] theorem l_neTL {a b : List (List Int)} : M.lift (fNe (tL a) (tL b)) = M.one (.d (.bl (!decide (a = b)))) := l_neEn (α := List (List Int)) (by decide)

@[simp] theorem l_eqTS {a b : List (Nat × Nat)} : M.lift (fEq (tS a) (tS b)) = M.one (.d (.bl (decide (a = b)))) := l_eqEn (α := List (Nat × Nat)) (by decide)

@[simp] theorem l_neTS {a b : List (Nat × Nat)} : M.lift (fNe (tS a) (tS b)) = M.one (.d (.bl (!decide (a = b)))) := l_neEn (α := List (Nat × Nat)) (by decide)

end DL

namespace DL

open PySem PySem.Spec L2

section

variable {α : Type} {g : α → Int} {l : List α}

theorem map_intc : (l.map fun x => D.int (g x)) = (l.map g).map D.int := by rw [List.map_map]; rfl

@[simp] theorem l_sortedM : M.lift (fSorted [.lst (l.map fun x => .int (g x))]) = M.one (.own ((isort (l.map g)).map .int)) := by rw [map_intc, l_sorted]

@[simp] theorem l_sortedSetM : M.lift (fSortedSet [.lst (l.map fun x => .int (g x))]) = (M.one (.own ((usort (l.map g)).map .int))).req (l.length < 4095) := by rw [map_intc, l_sortedSet, List.length_map]

@[simp] theorem l_sumM : M.lift (fSum [.lst (l.map fun x => .int (g x))]) = M.one (.d (.int (l.map g).sum)) := by rw [map_intc, l_sum]

@[simp] theorem l_maxM : M.lift (fMaxL [.lst (l.map fun x => .int (g x))]) = (M.one (.d (.int (maxL (l.map g))))).req (0 < l.length) := by rw [map_intc, l_maxL, List.length_map]

@[simp] theorem l_minM : M.lift (fMinL [.lst (l.map fun x => .int (g x))]) = (M.one (.d (.int (minL (l.map g))))).req (0 < l.length) := by rw [map_intc, l_minL, List.length_map]

end

end DL

namespace DL

open PySem PySem.Spec L2

section

variable {α σ : Type} {l : List α} {ρ : Sl}

theorem forL_endP {step : α → Sl → MS} (enc : σ → Sl) (stp : σ → α → σ) (s : σ) (e : ρ = enc s) (h : ∀ pre a post, l = pre ++ a :: post → step a (enc (pre.foldl stp s)) = nx (enc (stp (pre.foldl stp s) a))) : forL step l ρ = nx (enc (l.foldl stp s)) := by
  rw [e]
  exact forL_pre (fun pre => enc (pre.foldl stp s)) fun pre a post e => by rw [h pre a post e, List.foldl_append]; rfl

theorem range_split {n : Nat} {pre post : List Nat} {a : Nat} (e : List.range n = pre ++ a :: post) : a = pre.length ∧ a < n := by
  have h1 : (List.range n)[pre.length]? = some a := by rw [e]; simp
  have h2 := List.getElem?_eq_some_iff.mp h1
  obtain ⟨h3, h4⟩ := h2
  rw [List.getElem_range] at h4
  rw [List.length_range] at h3
  exact ⟨h4.symm, by omega⟩

theorem forL_range {n : Nat} {step : Nat → Sl → MS} (f : Nat → Sl) (e : ρ = f 0) (h : ∀ i, i < n → step i (f i) = nx (f (i + 1))) : forL step (List.range n) ρ = nx (f n) := by
  rw [e, ← List.length_range (n := n)]
  rw [List.length_range]
  have := forL_pre (l := List.range n) (step := step) (fun pre => f pre.length) fun pre a post e => by
    obtain ⟨e1, e2⟩ := range_split e
    rw [List.length_append, List.length_singleton, ← e1]
    exact h a e2
  rw [List.length_range] at this
  exact this

end

end DL

namespace DL

open PySem PySem.Spec L2

/-- a def by its kind of arguments, what must hold, what may come -/
def spec {ι α : Type} (enc : ι → List D) (pre : ι → Prop) (post : ι → α → Prop) (res : α → S) : FM := fun ds => M.lift fun R => ∃ i, ds = enc i ∧ pre i ∧ ∀ a, post i a → R (.v (res a))

section

variable {ι α : Type} {enc : ι → List D} {pre : ι → Prop} {post : ι → α → Prop} {res : α → S}

theorem spec_eq (inj : ∀ a b, enc a = enc b → a = b) (i : ι) : spec enc pre post res (enc i) = ((M.any (post i)).bind fun a => val (res a)).req (pre i) := M.ext fun μ P => by
  unfold spec
  rw [wp_lift, wp_req, wp_bind, wp_any]
  refine propext ⟨fun ⟨R, ⟨j, e, h1, h2⟩, h3⟩ => ?_, fun ⟨h1, h2⟩ => ⟨fun r => P r μ, ⟨i, rfl, h1, fun a ha => h2 a ha⟩, fun _ h => h⟩⟩
  have := inj _ _ e
  subst this
  exact ⟨h1, fun a ha => h3 _ (h2 a ha)⟩

theorem spec_le {f : FM} (h : ∀ i, pre i → (f (enc i)).sat fun r => ∃ a, post i a ∧ r = .v (res a)) (ds : List D) : (f ds).le (spec enc pre post res ds) := by
  rintro μ P ⟨R, ⟨i, rfl, h1, h2⟩, h3⟩
  exact (h i h1).wp fun r ⟨a, ha, e⟩ => by subst e; exact h3 _ (h2 a ha)

end

theorem En.inj {α : Type} [DecidableEq α] [En α] {a b : α} (h : En.d a = En.d b) : a = b := by
  have e := En.eqb a b
  rw [h, En.eqb] at e
  exact of_decide_eq_true (e.symm.trans (decide_eq_true rfl))

theorem tL_inj {a b : List (List Int)} (h : tL a = tL b) : a = b := En.inj (α := List (List Int)) h

end DL

namespace DL

open PySem PySem.Spec L2

section

variable {α β : Type} {f : α → β} {l m : List α} {n : Nat} {ns ms : List Int} {x y : Int}

theorem tail_mapS : (l.map f).tail = l.tail.map f := by cases l <;> rfl

theorem take_mapS : (l.map f).take n = (l.take n).map f := (List.map_take ..).symm

theorem drop_mapS : (l.map f).drop n = (l.drop n).map f := (List.map_drop ..).symm

theorem int_snoc : ns.map D.int ++ [D.int x] = (ns ++ [x]).map .int := by simp

theorem int_app : ns.map D.int ++ ms.map D.int = (ns ++ ms).map .int := by simp

@[simp] theorem l_sortedSet1 : M.lift (fSortedSet [.lst (ns.map .int ++ [.int x])]) = (M.one (.own ((usort (ns ++ [x])).map .int))).req (ns.length + 1 < 4095) := by rw [int_snoc, l_sortedSet]; simp

@[simp] theorem l_sortedSetA : M.lift (fSortedSet [.lst (ns.map .int ++ ms.map .int)]) = (M.one (.own ((usort (ns ++ ms)).map .int))).req (ns.length + ms.length < 4095) := by rw [int_app, l_sortedSet]; simp

@[simp] theorem l_sorted1 : M.lift (fSorted [.lst (ns.map .int ++ [.int x])]) = M.one (.own ((isort (ns ++ [x])).map .int)) := by rw [int_snoc, l_sorted]

@[simp] theorem l_sortedA : M.lift (fSorted [.lst (ns.map .int ++ ms.map .int)]) = M.one (.own ((isort (ns ++ ms)).map .int)) := by rw [int_app, l_sorted]

end

end DL









/-! ML12: len(x) of an instance. -/

namespace DL

open PySem PySem.Spec L2

section

variable {X : Cx} {G : Gx} {T : WX} {a b c e o value : Expr} {ma mb mo : EM S} {mu mk : EM (List D)} {pos pos' p apos cpos : Pos} {i k j : Nat} {f C m : Str} {ps : List Str} {es : List Expr} {kws : List Keyword} {p0 : Str}

def intO (s : S) (ρ : Sl) : ME S := match s with
  | .d (.int i) => (ok (.d (.int i)) ρ).req (0 ≤ i ∧ i < 2 ^ 63)
  | _ => M.bad

@[simp ↓] theorem intO_i {i : Int} {ρ : Sl} : intO (.d (.int i)) ρ = (ok (.d (.int i)) ρ).req (0 ≤ i ∧ i < 2 ^ 63) := rfl

def mLenO (C : Str) (g : FM) (ma : EM S) : EM S := fun ρ => bindE (ma ρ) fun x ρ1 => M.ask fun μ => optM (x.frz.fsOf C μ) fun _ => bindE (putN (g [x.frz]) ρ1) fun s ρ2 => intO s ρ2

@[simp ↓] theorem m_lenO {g : FM} {ρ : Sl} : mLenO C g ma ρ = bindE (ma ρ) fun x ρ1 => M.ask fun μ => optM (x.frz.fsOf C μ) fun _ => bindE (putN (g [x.frz]) ρ1) fun s ρ2 => intO s ρ2 := rfl

end

end DL

namespace DL

open PySem PySem.Spec L2

section

variable {α β : Type} {C f m : Str} {ma mo : EM S} {mu mk : EM (List D)} {ρ : Sl} {g : FM} {n n1 n2 i : Nat} {is : List Nat} {Cs : List Str}

@[simp ↓] theorem m_fld : mFld C f ma ρ = bindE (ma ρ) fun x ρ1 => M.ask fun μ => optM (x.frz.fsOf C μ) fun fs => optM (fs.lookup f) fun v => ok (.d v) ρ1 := rfl

@[simp ↓] theorem m_fldV : mFldV C f i ρ = fldV C f ρ[i]? ρ := rfl

@[simp ↓] theorem m_stF : mStF C f i ma ρ = (bindES (ma ρ) fun x ρ1 => stF C f i x.frz ρ1[i]? ρ1).req (∃ s, ρ[i]? = some (some s)) := rfl

@[simp ↓] theorem m_stC : mStC C f mo ma ρ = bindES (ma ρ) fun x ρ1 => bindES (mo ρ1) fun y ρ2 => M.ask fun μ => stC C f x.frz y.frz μ ρ2 := rfl

@[simp ↓] theorem m_prop : mProp C g ma ρ = bindE (ma ρ) fun x ρ1 => M.ask fun μ => optM (x.frz.fsOf C μ) fun _ => putN (g [x.frz]) ρ1 := rfl

@[simp ↓] theorem m_meth : mMeth C m n g mo mu ρ = bindE (mo ρ) fun x ρ1 => M.ask fun μ => optM (x.frz.fsOf C μ) fun fs => (bindE (mu ρ1) fun ds ρ2 => (put (g (x.frz :: ds)) ρ2).req (ds.length + 1 = n)).req (fs.lookup m = none) := rfl

@[simp ↓] theorem m_methK : mMethK C m n n1 n2 is g mo mu mk ρ = bindE (mo ρ) fun x ρ1 => M.ask fun μ => optM (x.frz.fsOf C μ) fun fs => (bindE (mu ρ1) fun ds ρ2 => (bindE (mk ρ2) fun es ρ3 => (put (g (permL .non is (x.frz :: (ds ++ es)))) ρ3).req (es.length = n2 ∧ (permL .non is (x.frz :: (ds ++ es))).length = n ∧ ∀ i ∈ is, i < (x.frz :: (ds ++ es)).length)).req (ds.length = n1)).req (fs.lookup m = none) := rfl

@[simp ↓] theorem m_cmeth : mCMeth C n g mu ρ = mCall n (fun ds => g (.cls C :: ds)) mu ρ := rfl

@[simp ↓] theorem m_isiC : mIsiC C Cs ma ρ = bindE (ma ρ) fun x ρ1 => M.ask fun μ => isiM C Cs x.frz μ ρ1 := rfl

end

end DL

namespace DL

open PySem PySem.Spec L2

@[simp] theorem l_eqTL0 {a : List (List Int)} : M.lift (fEq (tL a) (.tup [])) = M.one (.d (.bl (decide (a = [])))) := l_eqTL (b := [])

@[simp] theorem l_neTL0 {a : List (List Int)} : M.lift (fNe (tL a) (.tup [])) = M.one (.d (.bl (!decide (a = [])))) := l_neTL (b := [])

@[simp] theorem l_eqTI0 {a : List Int} : M.lift (fEq (tI a) (.tup [])) = M.one (.d (.bl (decide (a = [])))) := l_eqTI (b := [])

@[simp] theorem l_neTI0 {a : List Int} : M.lift (fNe (tI a) (.tup [])) = M.one (.d (.bl (!decide (a = [])))) := l_neTI (b := [])

@[simp] theorem l_eqTS0 {a : List (Nat × Nat)} : M.lift (fEq (tS a) (.tup [])) = M.one (.d (.bl (decide (a = [])))) := l_eqTS (b := [])

@[simp] theorem l_neTS0 {a : List (Nat × Nat)} : M.lift (fNe (tS a) (.tup [])) = M.one (.d (.bl (!decide (a = [])))) := l_neTS (b := [])

end DL

namespace DL

open PySem PySem.Spec L2

/-- may be asked for equality; at most n deep -/
def EqOk (n : Nat) (d : D) : Prop := d.isPy = true ∧ d.py.canLay0 = true ∧ d.py.depth ≤ n

theorem EqOk.ok {n : Nat} {d : D} (h : EqOk n d) (hn : n ≤ 60) : d.okEq = true := by
  simp only [D.okEq, h.1, SeqAt.shaped, h.2.1, Bool.true_and, decide_eq_true_eq]; have := h.2.2; omega

theorem eqOkA {n : Nat} : ∀ {ds : List D}, (D.arePy ds = true ∧ PyData.canLayAll0 (D.pys ds) = true ∧ PyData.depthAll (D.pys ds) ≤ n) ↔ ∀ d ∈ ds, EqOk n d
  | [] => by simp [D.arePy, D.pys, PyData.canLayAll0, PyData.depthAll]
  | d :: ds => by
    have ih := eqOkA (n := n) (ds := ds)
    simp only [D.arePy, D.pys, PyData.canLayAll0, PyData.depthAll, Bool.and_eq_true, List.mem_cons, forall_eq_or_imp, EqOk]
    constructor
    · rintro ⟨⟨h1, h2⟩, ⟨h3, h4⟩, h5⟩
      exact ⟨⟨h1, h3, by omega⟩, ih.mp ⟨h2, h4, by omega⟩⟩
    · rintro ⟨⟨h1, h3, h5⟩, h⟩
      obtain ⟨h2, h4, h6⟩ := ih.mpr h
      exact ⟨⟨h1, h2⟩, ⟨h3, h4⟩, by omega⟩

def EqOkA (n : Nat) (ds : List D) : Prop := ∀ d ∈ ds, EqOk n d

@[simp] theorem eqOkA_nil {n : Nat} : EqOkA n [] := fun _ h => absurd h (by simp)

@[simp] theorem eqOkA_cons {n : Nat} {d : D} {ds : List D} : EqOkA n (d :: ds) = (EqOk n d ∧ EqOkA n ds) := by unfold EqOkA; simp

@[simp] theorem eqOkA_app {n : Nat} {ds es : List D} : EqOkA n (ds ++ es) = (EqOkA n ds ∧ EqOkA n es) := propext ⟨fun h => ⟨fun d hd => h d (List.mem_append_left _ hd), fun d hd => h d (List.mem_append_right _ hd)⟩, fun h d hd => (List.mem_append.mp hd).elim (h.1 d) (h.2 d)⟩

@[simp] theorem eqOkA_map {α : Type} {n : Nat} {f : α → D} {l : List α} : EqOkA n (l.map f) = ∀ a ∈ l, EqOk n (f a) := by unfold EqOkA; simp

@[simp] theorem eqOk_tup {n : Nat} {ds : List D} : EqOk (n + 1) (.tup ds) = EqOkA n ds := by
  unfold EqOkA; rw [← eqOkA]; unfold EqOk; simp only [D.isPy, D.py, PyData.canLay0, PyData.depth]
  exact propext ⟨fun ⟨a, b, c⟩ => ⟨a, b, by omega⟩, fun ⟨a, b, c⟩ => ⟨a, b, by omega⟩⟩

@[simp] theorem eqOk_lst {n : Nat} {ds : List D} : EqOk (n + 1) (.lst ds) = EqOkA n ds := by
  unfold EqOkA; rw [← eqOkA]; unfold EqOk; simp only [D.isPy, D.py, PyData.canLay0, PyData.depth]
  exact propext ⟨fun ⟨a, b, c⟩ => ⟨a, b, by omega⟩, fun ⟨a, b, c⟩ => ⟨a, b, by omega⟩⟩

@[simp] theorem eqOk_int {n : Nat} {i : Int} : EqOk n (.int i) := ⟨rfl, rfl, Nat.zero_le _⟩

@[simp] theorem eqOk_bl {n : Nat} {i : Bool} : EqOk n (.bl i) := ⟨rfl, rfl, Nat.zero_le _⟩

@[simp] theorem eqOk_non {n : Nat} : EqOk n .non := ⟨rfl, rfl, Nat.zero_le _⟩

@[simp] theorem eqOk_str {n : Nat} {s : Str} : EqOk n (.str s) = (PyData.strOk s = true) := propext ⟨fun h => h.2.1, fun h => ⟨rfl, h, Nat.zero_le _⟩⟩

theorem eqb_self {d : D} (h : d.isPy = true) : D.eqb d d = true := eqv_self d h

theorem cmpOk_of {n : Nat} {d e : D} (h : EqOk n d) (h' : EqOk n e) (hn : n ≤ 60) : D.cmpOk d e = true := by
  simp only [D.cmpOk, h.ok hn, h'.ok hn, Bool.and_self, Bool.or_true]

theorem l_eqSelf {d : D} (h : EqOk 60 d) : M.lift (fEq d d) = M.one (.d (.bl true)) := lift_one fun R => by
  unfold fEq; rw [cmpOk_of h h (Nat.le_refl _), eqb_self h.1]; simp

theorem l_neSelf {d : D} (h : EqOk 60 d) : M.lift (fNe d d) = M.one (.d (.bl false)) := lift_one fun R => by
  unfold fNe; rw [cmpOk_of h h (Nat.le_refl _), eqb_self h.1]; simp

theorem l_repr {d : D} : M.lift (fRepr [d]) = (M.one (.d (.str d.py.shown))).req d.okRepr := lift_req fun _ => rfl

/-- of which the repr may be asked: at most n deep, of weight w -/
structure RpOk (n : Nat) (w : Nat) (d : D) : Prop where
  nice : d.nice n = true
  wt : d.wt ≤ w

theorem RpOk.ok {n w : Nat} {d : D} (h : RpOk n w d) (hn : n ≤ 60) (hw : w ≤ 200000) : d.okRepr := okRepr_of h.nice hn (Nat.le_trans h.wt hw)

theorem rp_int {n : Nat} {i : Int} (h : i.natAbs < 2 ^ 200) : RpOk n 200 (.int i) := ⟨nice_int h, Nat.le_of_eq (by simp [D.wt])⟩

/-- the same, by how many things are in it -/
structure RbOk (n : Nat) (w : Nat) (d : D) : Prop where
  nice : d.nice n = true
  bk : d.py.bulk ≤ w

theorem RbOk.ok {n w : Nat} {d : D} (h : RbOk n w d) (hn : n ≤ 60) (hw : w ≤ 200000) : d.okRepr := by
  obtain ⟨a, b, c, e, f, g⟩ := nice_of n d h.nice
  refine ⟨a, e, Nat.le_trans c hn, ?_⟩
  have := PyData.shown_le_bulk 64 (by decide) _ (PyData.leavesShort_of_canLay0 64 _ b f)
  have := h.bk
  have : sizeLine = 2 ^ 24 := rfl
  have : (2 : Nat) ^ 24 = 16777216 := by decide
  omega

theorem RbOk.mono {n w w' : Nat} {d : D} (h : RbOk n w d) (e : w ≤ w') : RbOk n w' d := ⟨h.nice, Nat.le_trans h.bk e⟩

theorem RpOk.mono {n w w' : Nat} {d : D} (h : RpOk n w d) (e : w ≤ w') : RpOk n w' d := ⟨h.nice, Nat.le_trans h.wt e⟩

end DL

namespace DL

open PySem PySem.Spec L2

/-- a law's case, over a jar: True -/
def p_case : FM := fun ds => (val (.d (.bl true))).req (ds = [.jar])

@[simp] theorem p_case_eq : p_case [.jar] = val (.d (.bl true)) := req_of rfl

end DL








/-! ML13: dicts that come: get, in; sorted of a dict. -/

namespace DL

open PySem PySem.Spec L2

section

variable {X : Cx} {G : Gx} {T : WX} {a b c e : Expr} {ma mk md mz : EM S} {pos p apos cpos : Pos} {i : Nat} {ρ : Sl} {neg : Bool}

def mDgetE (ma mk mz : EM S) : EM S := fun ρ => bindE (ma ρ) fun d ρ1 => (bindE (mk ρ1) fun k ρ2 => bindE (mz ρ2) fun z ρ3 => (M.lift (dGetE d.frz k.frz z.frz)).bind fun v => ok (.d v) ρ3).req (∃ kvs, d.frz = .dic kvs)

def inM (neg : Bool) (d k : D) (ρ : Sl) : ME S := match d, k.key with
  | .dic kvs, some κ => ok (.d (.bl ((valD kvs κ).isSome ^^ neg))) ρ
  | _, _ => M.bad

def mDin (neg : Bool) (mk md : EM S) : EM S := fun ρ => bindE (mk ρ) fun k ρ1 => bindE (md ρ1) fun d ρ2 => inM neg d.frz k.frz ρ2

def mDinV (neg : Bool) (i : Nat) (mk : EM S) : EM S := fun ρ => (bindE (mk ρ) fun k ρ1 => slotM ρ1[i]? fun s => inM neg s.frz k.frz ρ1).req (∃ s0, ρ[i]? = some (some s0))

@[simp ↓] theorem m_dgetE : mDgetE ma mk mz ρ = bindE (ma ρ) fun d ρ1 => (bindE (mk ρ1) fun k ρ2 => bindE (mz ρ2) fun z ρ3 => (M.lift (dGetE d.frz k.frz z.frz)).bind fun v => ok (.d v) ρ3).req (∃ kvs, d.frz = .dic kvs) := rfl

@[simp ↓] theorem m_din : mDin neg mk md ρ = bindE (mk ρ) fun k ρ1 => bindE (md ρ1) fun d ρ2 => inM neg d.frz k.frz ρ2 := rfl

@[simp ↓] theorem m_dinV : mDinV neg i mk ρ = (bindE (mk ρ) fun k ρ1 => slotM ρ1[i]? fun s => inM neg s.frz k.frz ρ1).req (∃ s0, ρ[i]? = some (some s0)) := rfl

@[simp] theorem inM_int {kvs : List (Key × D)} {x : Int} : inM neg (.dic kvs) (.int x) ρ = ok (.d (.bl ((valD kvs (.inl x)).isSome ^^ neg))) ρ := rfl

@[simp] theorem inM_str {kvs : List (Key × D)} {x : Str} : inM neg (.dic kvs) (.str x) ρ = ok (.d (.bl ((valD kvs (.inr x)).isSome ^^ neg))) ρ := rfl

end

@[simp ↓] theorem l_sortedXl {ds : List D} : M.lift (fSortedX [.lst ds]) = M.lift (fSorted [.lst ds]) := rfl

@[simp ↓] theorem l_sortedXr {ds : List D} : M.lift (fSortedX [.rls ds]) = M.lift (fSorted [.rls ds]) := rfl

/-- a dict from ints to ints -/
abbrev dI (m : List (Int × Int)) : List (Key × D) := m.map fun p => (.inl p.1, .int p.2)

theorem dI_keys {m : List (Int × Int)} : (dI m).map (·.1) = (m.map (·.1)).map Sum.inl := by simp [dI]

theorem inl_inj {a b : List Int} (h : a.map (Sum.inl : Int → Key) = b.map Sum.inl) : a = b := by
  induction a generalizing b with
  | nil => cases b with
    | nil => rfl
    | cons _ _ => cases h
  | cons x a ih => cases b with
    | nil => cases h
    | cons y b =>
      simp only [List.map_cons, List.cons.injEq] at h
      cases h.1
      rw [ih h.2]

@[simp] theorem l_sortedDI {m : List (Int × Int)} : M.lift (fSortedX [.dic (dI m)]) = M.one (.own ((isort (m.map (·.1))).map .int)) := M.ext fun μ P => by
  rw [wp_lift, wp_one]
  refine propext ⟨fun ⟨R, ⟨ks, e, h⟩, r⟩ => ?_, fun h => ⟨fun s => P s μ, ⟨m.map (·.1), dI_keys, fun ys p s => by rw [isort_uniq p s]; exact h⟩, fun _ q => q⟩⟩
  rw [dI_keys] at e
  have e := inl_inj e
  subst e
  exact r _ (h _ (isort_perm _) (isort_sorted _))

@[simp ↓] theorem l_sumXl {ds : List D} : M.lift (fSumX [.lst ds]) = M.lift (fSum [.lst ds]) := rfl

@[simp ↓] theorem l_sumXr {ds : List D} : M.lift (fSumX [.rls ds]) = M.lift (fSum [.rls ds]) := rfl

@[simp] theorem l_sumXt {ns : List Int} : M.lift (fSumX [.tup (ns.map .int)]) = M.one (.d (.int ns.sum)) := lift_one fun R => propext ⟨fun ⟨ms, e, h⟩ => by rw [int_inj e]; exact h, fun h => ⟨ns, rfl, h⟩⟩

@[simp] theorem frz_ldicS {kvs : List (Key × D)} : (S.ldic kvs).frz = .dic kvs := rfl

@[simp] theorem own_ldicS {kvs : List (Key × D)} : (S.ldic kvs).isOwn = false := rfl

@[simp] theorem frz_odicS {kvs : List (Key × D)} : (S.odic kvs).frz = .dic kvs := rfl

@[simp] theorem frz_oinsS {a : Addr} {C : Str} {fs : List (Str × D)} : (S.oins a C fs).frz = .ins C fs := rfl

section

variable {α : Type} {g : α → Int} {l : List α} {ns : List Int}

@[simp] theorem l_neG0 : M.lift (fNe (.lst (ns.map .int)) (.lst [])) = M.one (.d (.bl (!decide (ns = [])))) := l_neGI (b := [])

@[simp] theorem l_eqG0 : M.lift (fEq (.lst (ns.map .int)) (.lst [])) = M.one (.d (.bl (decide (ns = [])))) := l_eqGI (b := [])

@[simp] theorem l_neGM0 : M.lift (fNe (.lst (l.map fun a => .int (g a))) (.lst [])) = M.one (.d (.bl (!decide (l = [])))) := by rw [map_intc, l_neG0]; simp

@[simp] theorem l_eqGM0 : M.lift (fEq (.lst (l.map fun a => .int (g a))) (.lst [])) = M.one (.d (.bl (decide (l = [])))) := by rw [map_intc, l_eqG0]; simp

end

/-! ### four names at once -/

def mPar4 (i j l n : Nat) (wa wb wc we : EM S) : SM := fun ρ => bindES (wa ρ) fun x ρ1 => bindES (wb ρ1) fun y ρ2 => bindES (wc ρ2) fun z ρ3 => bindES (we ρ3) fun t ρ4 => nx ((((ρ4.set i (some x)).set j (some y)).set l (some z)).set n (some t))

@[simp ↓] theorem m_par4 {i j l n : Nat} {wa wb wc we : EM S} : mPar4 i j l n wa wb wc we ρ = bindES (wa ρ) fun x ρ1 => bindES (wb ρ1) fun y ρ2 => bindES (wc ρ2) fun z ρ3 => bindES (we ρ3) fun t ρ4 => nx ((((ρ4.set i (some x)).set j (some y)).set l (some z)).set n (some t)) := rfl

end DL








/-! ML14: sorted of tuples, ranges as lists and tuples, len and list of dicts. -/

namespace DL

open PySem PySem.Spec L2

section

variable {X : Cx} {G : Gx} {T : WX} {a b : Expr} {ma mb : EM S} {p p1 pos pos1 : Pos} {ρ : Sl}

/-- a range's ints -/
def rgI (m n : Int) : List Int := (List.range (n - m).toNat).map fun (i : Nat) => m + (i : Int)

def rgM (f : List D → S) (a b : D) (ρ : Sl) : ME S := match a, b with
  | .int m, .int n => (ok (f ((rgI m n).map .int)) ρ).req (RgOk m n)
  | _, _ => M.bad

@[simp ↓] theorem rgM_int {f : List D → S} {m n : Int} : rgM f (.int m) (.int n) ρ = (ok (f ((rgI m n).map .int)) ρ).req (RgOk m n) := rfl

def mLstRg1 (ma : EM S) : EM S := fun ρ => bindE (ma ρ) fun x ρ1 => rgM .own (.int 0) x.frz ρ1

def mTupRg1 (ma : EM S) : EM S := fun ρ => bindE (ma ρ) fun x ρ1 => rgM (fun ds => .d (.tup ds)) (.int 0) x.frz ρ1

def mLstRg2 (ma mb : EM S) : EM S := fun ρ => bindE (ma ρ) fun x ρ1 => bindE (mb ρ1) fun y ρ2 => rgM .own x.frz y.frz ρ2

def mTupRg2 (ma mb : EM S) : EM S := fun ρ => bindE (ma ρ) fun x ρ1 => bindE (mb ρ1) fun y ρ2 => rgM (fun ds => .d (.tup ds)) x.frz y.frz ρ2

@[simp ↓] theorem m_lstRg1 : mLstRg1 ma ρ = bindE (ma ρ) fun x ρ1 => rgM .own (.int 0) x.frz ρ1 := rfl

@[simp ↓] theorem m_tupRg1 : mTupRg1 ma ρ = bindE (ma ρ) fun x ρ1 => rgM (fun ds => .d (.tup ds)) (.int 0) x.frz ρ1 := rfl

@[simp ↓] theorem m_lstRg2 : mLstRg2 ma mb ρ = bindE (ma ρ) fun x ρ1 => bindE (mb ρ1) fun y ρ2 => rgM .own x.frz y.frz ρ2 := rfl

@[simp ↓] theorem m_tupRg2 : mTupRg2 ma mb ρ = bindE (ma ρ) fun x ρ1 => bindE (mb ρ1) fun y ρ2 => rgM (fun ds => .d (.tup ds)) x.frz y.frz ρ2 := rfl

end

@[simp] theorem l_lenDic {kvs : List (Key × D)} : M.lift (fLenD [.dic kvs]) = M.one (.d (.int kvs.length)) := lift_one fun R => rfl

@[simp] theorem l_listDic {kvs : List (Key × D)} : M.lift (fListD [.dic kvs]) = M.one (.own (kvs.map fun kv => keyD kv.1)) := lift_one fun R => rfl

theorem tT_inj {a b : List (List Int)} (h : a.map dT = b.map dT) : a = b := by
  have := congrArg (List.map unT) h
  rwa [unT_map, unT_map] at this

theorem l_srtA {ks : List (List Int)} {d : D} (hd : d = .lst (ks.map dT) ∨ d = .tup (ks.map dT)) : M.lift (fSortedA [d]) = (M.one (.own ((sortT ks).map tI))).req (∀ k ∈ ks, k ≠ []) := lift_req fun R => propext ⟨fun ⟨ks', e, h1, h2⟩ => by
    have : ks = ks' := by
      rcases hd with rfl | rfl <;> rcases e with e | e
      · injection e with e _; injection e with e; exact tT_inj e
      · injection e with e _; cases e
      · injection e with e _; cases e
      · injection e with e _; injection e with e; exact tT_inj e
    subst this
    exact ⟨h1, h2⟩, fun ⟨h1, h2⟩ => ⟨ks, by rcases hd with rfl | rfl; exact .inl rfl; exact .inr rfl, h1, h2⟩⟩

@[simp] theorem l_srtAl {ks : List (List Int)} : M.lift (fSortedA [.lst (ks.map tI)]) = (M.one (.own ((sortT ks).map tI))).req (∀ k ∈ ks, k ≠ []) := l_srtA (.inl rfl)

@[simp] theorem l_srtAt {ks : List (List Int)} : M.lift (fSortedA [.tup (ks.map tI)]) = (M.one (.own ((sortT ks).map tI))).req (∀ k ∈ ks, k ≠ []) := l_srtA (.inr rfl)

end DL








/-! ML15: dict comprehensions, a[k] of a dict that comes. -/

namespace DL

open PySem PySem.Spec L2

section

variable {X : Cx} {G : Gx} {T : WX} {a b : Expr} {ma mk : EM S} {t : EM Bool} {wi : EM (List D)} {p p1 pos pos1 : Pos} {ρ : Sl}

/-- what a list of pairs puts into a dict -/
def putE (m : List (Key × D)) (e : D) : List (Key × D) := match e with
  | .tup [k, v] => match k.key with
    | some κ => putD m κ v
    | none => m
  | _ => m

def putsD (acc : List D) : List (Key × D) := acc.foldl putE []

def dcT (f : TgF) (t : EM Bool) (ek ev : EM S) (ρ : Sl) (d : D) : M (List D) := (M.lift (f d)).bind fun l => (quiet (t (storesS ρ l)) (storesS ρ l)).bind fun b =>
  if b = true then (quiet (ek (storesS ρ l)) (storesS ρ l)).bind fun y => (quiet (ev (storesS ρ l)) (storesS ρ l)).bind fun z => keyM y.frz.key fun κ => M.one [.tup [keyD κ, z.frz]] else M.one []

def mDc (wi : EM (List D)) (f : TgF) (t : EM Bool) (ek ev : EM S) (vs : List Nat) : EM S := fun ρ => bindE (wi ρ) fun ds ρ1 => ((lcAll (dcT f t ek ev (wipeS ρ1 vs)) ds).bind fun acc => ok (.odic (putsD acc)) ρ1).req (noOwnB ρ1 vs = true ∧ ds.length ≤ sizeLine)

@[simp ↓] theorem m_dc {f : TgF} {vs : List Nat} {ek ev : EM S} : mDc wi f t ek ev vs ρ = bindE (wi ρ) fun ds ρ1 => ((lcAll (dcT f t ek ev (wipeS ρ1 vs)) ds).bind fun acc => ok (.odic (putsD acc)) ρ1).req (noOwnB ρ1 vs = true ∧ ds.length ≤ sizeLine) := rfl

@[simp ↓] theorem dcT_eq {f : TgF} {ek ev : EM S} {d : D} : dcT f t ek ev ρ d = (M.lift (f d)).bind fun l => (quiet (t (storesS ρ l)) (storesS ρ l)).bind fun b =>
  if b = true then (quiet (ek (storesS ρ l)) (storesS ρ l)).bind fun y => (quiet (ev (storesS ρ l)) (storesS ρ l)).bind fun z => keyM y.frz.key fun κ => M.one [.tup [keyD κ, z.frz]] else M.one [] := rfl

def mDgetX (ma mk : EM S) : EM S := fun ρ => bindE (ma ρ) fun d ρ1 => bindE (mk ρ1) fun k ρ2 => (M.lift (dGet d.frz k.frz)).bind fun v => ok (.d v) ρ2

@[simp ↓] theorem m_dgetX : mDgetX ma mk ρ = bindE (ma ρ) fun d ρ1 => bindE (mk ρ1) fun k ρ2 => (M.lift (dGet d.frz k.frz)).bind fun v => ok (.d v) ρ2 := rfl

@[simp] theorem l_revT {ds : List D} : M.lift (fRevT (.tup ds)) = M.one (.d (.tup ds.reverse)) := lift_one fun _ => rfl

end

end DL








/-! ML16: xs.pop(k). -/

namespace DL

open PySem PySem.Spec L2

section

variable {X : Cx} {G : Gx} {T : WX} {e : Expr} {ma : EM S} {p apos cpos : Pos} {ρ : Sl}

def popM (o : Option (Option S)) (d : D) (f : D → List D → ME S) : ME S := match o, d with
  | some (some (.own ds)), .int k => match ds[k.toNat]? with
    | some y => (f y (ds.eraseIdx k.toNat)).req (0 ≤ k ∧ k < 2 ^ 62)
    | none => M.bad
  | _, _ => M.bad

@[simp ↓] theorem popM_own {ds : List D} {k : Int} {f : D → List D → ME S} : popM (some (some (.own ds))) (.int k) f = match ds[k.toNat]? with
    | some y => (f y (ds.eraseIdx k.toNat)).req (0 ≤ k ∧ k < 2 ^ 62)
    | none => M.bad := rfl

def mPop (i : Nat) (ma : EM S) : EM S := fun ρ => (bindE (ma ρ) fun d ρ1 => popM ρ1[i]? d.frz fun y ds => ok (.d y) (ρ1.set i (some (.own ds)))).req (∃ d0, ρ[i]? = some (some (.own d0)))

@[simp ↓] theorem m_pop {i : Nat} : mPop i ma ρ = (bindE (ma ρ) fun d ρ1 => popM ρ1[i]? d.frz fun y ds => ok (.d y) (ρ1.set i (some (.own ds)))).req (∃ d0, ρ[i]? = some (some (.own d0))) := rfl

end

end DL






/-! ### defs that call themselves: by the depth of the calls -/

namespace DL

open PySem PySem.Spec L2

end DL







/-! ML18: sorted of tuples of tuples of ints. -/

namespace DL

open PySem PySem.Spec L2

theorem tTT_inj {a b : List (List (List Int))} (h : a.map dTT = b.map dTT) : a = b := by
  have := congrArg (List.map unTT) h
  rwa [unTT_map, unTT_map] at this

theorem l_srtTT {ks : List (List (List Int))} {d : D} (hd : d = .lst (ks.map dTT) ∨ d = .tup (ks.map dTT)) : M.lift (fSortedTT [d]) = (M.one (.own ((sortTT ks).map tL))).req (∀ k ∈ ks, k ≠ []) := lift_req fun R => propext ⟨fun ⟨ks', e, h1, h2⟩ => by
    have : ks = ks' := by
      rcases hd with rfl | rfl <;> rcases e with e | e
      · injection e with e _; injection e with e; exact tTT_inj e
      · injection e with e _; cases e
      · injection e with e _; cases e
      · injection e with e _; injection e with e; exact tTT_inj e
    subst this
    exact ⟨h1, h2⟩, fun ⟨h1, h2⟩ => ⟨ks, by rcases hd with rfl | rfl; exact .inl rfl; exact .inr rfl, h1, h2⟩⟩

@[simp] theorem l_srtTTl {ks : List (List (List Int))} : M.lift (fSortedTT [.lst (ks.map tL)]) = (M.one (.own ((sortTT ks).map tL))).req (∀ k ∈ ks, k ≠ []) := l_srtTT (.inl rfl)

@[simp] theorem l_srtTTt {ks : List (List (List Int))} : M.lift (fSortedTT [.tup (ks.map tL)]) = (M.one (.own ((sortTT ks).map tL))).req (∀ k ∈ ks, k ≠ []) := l_srtTT (.inr rfl)

end DL













set_option maxHeartbeats 4000000

/-! DL28: own exception classes over any base: made, raised. -/

namespace PySem

namespace OEG

open PySem.W PySem.Calls PyProof.Rows PySem.HandSPX

section

open Builtin Builtin.ObjectAttr

variable {prog : Program} {w : World} {A : Around} {E : Value → Shared → Prop} {R : Result → Shared → Prop} {hp : Heap} {g : Array GenState} {d : Drawn} {t : Nat} {os : OsState}

theorem osa_new {K : W.Frag} {name : Str} {tk : Tok} {v : Value} {x C : Addr} {fv : Array Value} {cd : ClassData} {bmB : List Value} (hps : ∀ self, refuseLoop self "__setattr__" bmB = pure ()) (hob0 : bmB.contains (.type "object") = true)
    (X : K.In hp) (hx : hp.get? x = some { cls := .ref C, data := .fields fv }) (hcd : W.clsIn K C = some cd) (hm : excTail bmB cd.mro = true) (ne : cd.mro.isEmpty = false) (hh : cd.hasDict = true) (ha : W.findIn K (.ref C) name = some none)
    (hq : ∀ h' tk' dx, (∀ b o, b ≠ x → hp.get? b = some o → h'.get? b = some o) → hp.objs.size ≤ dx → dx ≠ x → h'.get? x = some { cls := .ref C, dict := some dx, data := .fields fv } →
      h'.Ns1 dx (fun y => if y = name then some v else none) → R (.ok (.ret .none)) ⟨h', g, d, tk', os⟩) :
    codeAny (model prog w) A (.call (.builtin "object.__setattr__") ⟨[.ref x, .str name tk, v], []⟩) R ⟨hp, g, d, t, os⟩ := by
  have I : W.InstAt hp x { cls := .ref C, data := .fields fv } C none := ⟨hx, rfl, rfl, trivial⟩
  have SF := F.store_object
  have hob : cd.mro.contains (.type "object") = true := (excTail_contains "object" _ hm).trans hob0
  have hxs : x ≠ hp.objs.size := Nat.ne_of_lt (Heap.lt_size hx)
  have sub : W.Looks (model prog w) hp (isInstance (.ref x) (.type "object")) true := I.type.andThen (W.looks_mroIn X (by unfold W.mroIn; rw [hcd, Option.bind_some, if_neg (by rw [ne]; decide), hob]))
  refine codeAny_call_builtin SF.slot.plain SF.entry (@W.check_slot (model prog w) _ _ ⟨hp, g, d, t, os⟩ "object.__setattr__" "object" "__setattr__" (.ref x) [.str name tk, v] [] _ SF.kind SF.split sub (SF.args (.ref x) (.str name tk) v) ?_)
  have hmr : W.Looks (model prog w) hp (mroOf (.ref C)) cd.mro := (W.looks_clsIn X hcd).andThen .now
  have L3 : W.Looks (model prog w) hp (storeTaker? none) none := .now
  have hcls : W.Looks (model prog w) hp (classData C) cd := W.looks_clsIn X hcd
  rw [W.osa_eq, refuse_eq]
  refine wpAny_bind (wpAny_bind (I.type.at (wpAny_bind (hmr.at ?_))))
  rw [excTail_pass _ (hps _) _ hm]
  refine wpAny_pure (wpAny_bind (I.type.at (wpAny_bind ((W.looks_findIn X ha).at (wpAny_bind (L3.at ?_))))))
  show wpAny _ _ (storeInOwnDict (.ref x) (.ref C) (.str name tk) name v false) _ _ _
  obtain ⟨nm, bs, mro, ns, qn, hd, sn, sb, ab, col, del⟩ := cd
  dsimp only at hh
  subst hh
  unfold storeInOwnDict ownDictForStores
  repeat (first | with_reducible refine store_in_new ?_ ?_ | with_reducible refine wpAny_loadPart_at hx ?_ | with_reducible refine hcls.at ?_ | wp_step)
  · exact ⟨_, #[], _, (Heap.get?_update_ne _ _ _ _ hxs.symm).trans (Heap.get?_push_at rfl rfl), rfl, fun e he => absurd he (by simp), fun _ => rfl⟩
  · intro h' tk' hn' hs
    have hx₁ : (hp.push { cls := .type "dict", data := .dict #[] }).get? x = some { cls := .ref C, data := .fields fv } := Heap.get?_push_of_some _ hx
    refine hq h' tk' hp.objs.size (fun b o hb ho => ?_) (Nat.le_refl _) hxs.symm ?_ hn'
    · exact (hs.2 b (Nat.ne_of_lt (Heap.lt_size ho))).trans ((Heap.get?_update_ne _ _ _ _ hb).trans (Heap.get?_push_of_some _ ho))
    · exact (hs.2 x hxs).trans (Heap.get?_update_self _ hx₁ rfl)

end

end OEG

end PySem

namespace DL

open PySem PySem.Spec PyProof.Rows L2

/-- a built-in base of exceptions -/
structure XBase (bmB : List Value) (newId : String) : Prop where
  fb : ∃ B initId, ExcBaseFacts B newId initId bmB
  ps : ∀ self, refuseLoop self "__setattr__" bmB = pure ()
  ob : bmB.contains (.type "object") = true

abbrev bmVE : List Value := [.type "ValueError", .type "Exception", .type "BaseException", .type "object"]

theorem xb_ve : XBase bmVE "ValueError.__new__" := ⟨⟨_, _, F.excBase_ValueError⟩, F.store_ValueError.passes, by decide +kernel⟩

/-- an own class of exceptions -/
structure XCls (K : PySem.W.Frag) (C : Addr) : Prop where
  bs : ∃ bmB newId, XBase bmB newId ∧ PySem.W.excInitIn K C bmB newId = true
  hd : PySem.W.hasDictIn K C = true
  sa : PySem.W.findIn K (.ref C) "__setattr__" = some (some (.builtin "object.__setattr__"))
  exC : PySem.W.subIn K (.ref C) (.type "BaseException") = some true
  tyC : PySem.W.typeIn K (.ref C) = some (.type "type")
  kC : PySem.W.keepIn K (.ref C) = true
  ga : PySem.W.findIn K (.ref C) "__getattribute__" = some (some (.builtin "BaseException.__getattribute__"))
  gg : PySem.W.findIn K (.ref C) "__getattr__" = some none

theorem xcls_cd {K : PySem.W.Frag} {C : Addr} {bmB : List Value} {newId : String} (q : PySem.W.excInitIn K C bmB newId = true) (hd : PySem.W.hasDictIn K C = true) :
    ∃ nm N qn bs bm sn sub ab col dd k0 k1 k2 k3 k5, K.lookup C = some (excClassObj nm qn C N bs bm true sn sub ab col dd k0 k1 k2 k3 k5 newId) ∧ PySem.W.excTail bmB bm = true := by
  unfold PySem.W.excInitIn at q
  split at q
  · rename_i dd cd sl ho
    split at q
    · rename_i C' bm k0 k1 k2 k3 n k5 hm hs
      simp only [Bool.and_eq_true, beq_iff_eq, Bool.not_eq_true'] at q
      obtain ⟨⟨⟨rfl, rfl⟩, hdel⟩, ht⟩ := q
      obtain ⟨cd', hc, hd⟩ := PySem.W.any_some hd
      have e : cd' = cd := by
        unfold PySem.W.clsIn at hc
        rw [ho] at hc
        exact (Option.some.inj hc).symm
      subst e
      obtain ⟨nm, bs, mro, ns, qn, hd', sn, sub, ab, col, del⟩ := cd'
      dsimp only at hm hdel hd
      subst hm hdel hd
      have hsl : sl = #[k0, k1, k2, k3, some (.builtin n), k5] := by
        obtain ⟨l⟩ := sl
        simp only at hs
        rw [hs]
      subst hsl
      exact ⟨nm, ns, qn, bs, bm, sn, sub, ab, col, dd, k0, k1, k2, k3, k5, ho, ht⟩
    · cases q
  · cases q

section

variable {X : Cx} {pins : List (Addr × Obj)} {σ : L2.St} {H : Hp} {s : Shared} {a C dx : Addr} {f : Str} {y : V} {u : Value} {fs : List (Str × V)} {Q : Unit → Shared → Prop} {E : Value → Shared → Prop} {A : Around}

/-- self.f = y, the first one -/
theorem ost_newG (T : XCls X.K C) (I : Inv X pins σ H s) (e : H a = some (exo a C none)) (hno : PySem.W.findIn X.K (.ref C) f = some none) (ry : RelV y u)
    (h : ∀ dx s', H dx = none → dx ≠ a → Inv X pins σ (upd (upd H dx (exd dx [(f, y)])) a (exo a C (some dx))) s' → Q () s') : wpAny (model X.prog X.w) A (setAttr (.ref a) f u) Q E s := by
  obtain ⟨bmB, newId, XB, hq⟩ := T.bs
  obtain ⟨nm, N, q, bs, bm, sn, sub, ab, col, dd, k0, k1, k2, k3, k5, hC, hbm⟩ := xcls_cd hq T.hd
  have hcl : PySem.W.clsIn X.K C = some { name := nm, bases := bs, mro := .ref C :: bm, ns := N, qualname := q, hasDict := true, slotNames := sn, subclasses := sub, abstract := ab, collection := col, hasDel := false } := by unfold PySem.W.clsIn; rw [hC] <;> rfl
  obtain ⟨t1, ho⟩ := exo_at I.hok e
  obtain ⟨hp, g, d, t, os⟩ := s
  refine PySem.W.set_plain I.kIn (ox := { cls := .ref C, dict := none, data := .fields #[.ref t1, .none, .none, .none, .bool false, .none] }) (od := none) ⟨ho, rfl, rfl, trivial⟩ T.sa ?_
  refine PySem.OEG.osa_new XB.ps XB.ob I.kIn ho hcl (show PySem.W.excTail bmB (.ref C :: bm) = true from hbm) rfl rfl hno (fun h' tk' dx k dn dne hx hn => ?_)
  have hnd : H dx = none := I.hok.fresh dn
  have nd : ∀ {b : Addr} {o : Obj}, hp.get? b = some o → b ≠ dx := fun {b o} q => Nat.ne_of_lt (Nat.lt_of_lt_of_le (Heap.lt_size q) dn)
  have na : ∀ {b : Addr}, H b = none → b ≠ a := fun {b} n z => by
    rw [z, e] at n
    cases n
  have Un1 : Un X.fs [] H (upd (upd H dx (exd dx [(f, y)])) a (exo a C (some dx))) hp h' := {
    keep := fun b o q n _ _ => k b o (na n) q
    slot := fun b o q n _ _ => ⟨o.slots, k b o (na n) q⟩
    free := fun b o q n _ => by rw [upd_ne (na n), upd_ne (nd q)]; exact n
    there := fun b o q _ => by
      by_cases hb : b = a
      · exact ⟨_, by rw [hb]; exact hx⟩
      · exact ⟨o, k b o hb q⟩
    tups := fun b xs q => by rw [upd_ne (at_ne e q exo_tup), upd_ne (ne_of_none q hnd)]; exact q
    frzs := fun b o v q => by rw [upd_ne (at_ne e q exo_frz), upd_ne (ne_of_none q hnd)]; exact q
    tbls := fun b ps q => ⟨#[], by rw [upd_ne (at_ne e q exo_tbl), upd_ne (ne_of_none q hnd), q]; simp⟩ }
  refine h dx _ hnd dne (I.un (t' := tk') Un1 fun b o q => ?_)
  by_cases hb : b = a
  · subst hb
    rw [upd_same] at q
    cases q
    exact exo_ok hx
  · rw [upd_ne hb] at q
    by_cases hd : b = dx
    · subst hd
      rw [upd_same] at q
      cases q
      exact exd_ok hn (relO_put (fs := []) ry fun g => True.intro)
    · rw [upd_ne hd] at q
      exact (I.hok b o q).stay (fun c v hc z => k c v (by
          rcases hc with hc | hc
          · rw [hc]
            exact hb
          · exact at_ne e hc exo_own) z)
        (fun c hc => by rw [upd_ne (at_ne e hc exo_own), upd_ne (ne_of_none hc hnd)]; exact hc) (fun c xs hc => by rw [upd_ne (at_ne e hc exo_tup), upd_ne (ne_of_none hc hnd)]; exact hc)

end

/-- self.f = e in an __init__ -/
def tOstG (K : PySem.W.Frag) (f : Str) (to te : TE) : TS := fun D σ H => te σ H fun y H1 => to σ H1 fun x H2 => ∃ a C : Addr, x = .ref a ∧ XCls K C ∧ PySem.W.findIn K (.ref C) f = some none ∧
  (H2 a = some (exo a C none) ∧ ∀ dx, H2 dx = none → dx ≠ a → D.nx σ (upd (upd H2 dx (exd dx [(f, y)])) a (exo a C (some dx))))

theorem ps_ostG {X : Cx} {o e : Expr} {to te : TE} {f : Str} {p' pos : Pos} (ho : PE X o to) (he : PE X e te) (hs : swapsWith e (some (.Attribute o f p')) pos.line X.env = pure false := by rfl) : PS X (.Assign [.Attribute o f p'] e pos) (tOstG X.K f to te) := by
  refine ⟨fun pins s σ H D I h => ?_⟩
  refine plainObj_wpAny_Assign_Attribute (thn (he.run pins s σ H _ I h) fun v s1 ⟨y, H1, I1, r1, q1⟩ => thn (ho.run pins s1 σ H1 _ I1 q1) fun u s2 ⟨x, H2, I2, r2, a, C, ex, T, hno, ea, q⟩ => ?_) hs
  subst ex
  obtain rfl : u = Value.ref a := r2
  exact ost_newG T I2 ea hno r1 fun dx s' n ne J => ⟨σ, _, J, q dx n ne⟩

/-- the __init__ that stores its parameter -/
def spXI (K : PySem.W.Frag) (C : Addr) (f : Str) : Sp := fun vs H Q _ => ∃ (a : Addr) (y : V), vs = [.ref a, y] ∧ H a = some (exo a C none) ∧ ∀ dx, H dx = none → dx ≠ a → Q .non (upd (upd H dx (exd dx [(f, y)])) a (exo a C (some dx)))

section

variable {P : Program} {w : World} {K : PySem.W.Frag} {mg : Str → Option Value} {base : Heap}

theorem ok_xinit {CX : CXT} {qual : Str} {st : Stmt} {fI C : Addr} {fd : FuncData} {s p f : Str} {p1 p2 p3 pos : Pos} (F : Fun K "__init__" qual st fI fd) (S : FnScope [s, p] [s, p] (defScope st)) (hb : defBody st = [.Assign [.Attribute (.Name s p1) f p2] (.Name p p3) pos])
    (T : XCls K C) (hno : PySem.W.findIn K (.ref C) f = some none) (v0 : Vis (defScope st) s) (v1 : Vis (defScope st) p) (d0 : (s == ("__debug__" : Str)) = false) (d1 : (p == ("__debug__" : Str)) = false) (c0 : (s == ("__classdict__" : Str)) = false) (c1 : (p == ("__classdict__" : Str)) = false) :
    FnOk P w K mg base CX 1 fI fd [s, p] (spXI K C f) := by
  obtain ⟨oc, od, kV, doc, pm, an, cdv, ct, osl, rfl, lk, hcd⟩ := F.ex
  refine fn_of (N := [s, p]) lk hcd S (fun vs H Q E ⟨_, _, e, _⟩ => by rw [e]; rfl) fun A outer s' H vs Q E hr ⟨a, y, e, ha, hq⟩ => ?_
  subst e
  rw [hb]
  refine ⟨_, pss_one (ps_ostG (pe_var (i := 0) rfl v0 d0 c0) (pe_var (i := 1) rfl v1 d1 c1)), ?_⟩
  exact ⟨_, rfl, _, rfl, a, C, rfl, T, hno, ha, fun dx h1 h2 => hq dx h1 h2⟩

end

/-- C(e): the exception with its one attribute -/
def tMkG (C : Addr) (f : Str) (ta : TA) : L2.St → Hp → XK → Prop := fun σ H Q => ta σ H fun vs H1 => ∃ y, vs = [y] ∧ ∀ d, H1 d = none → Q (.ref C) (some d) (upd H1 d (.xd [(f, y)]))

section

variable {X : Cx} {e : Expr} {es : List Expr} {ta : TA} {f x : Str} {p pos : Pos}

theorem pmk_oexG {C fI : Addr} {k : Nat} {fd : FuncData} {ps : List Str} (T : XCls X.K C) (iC : PySem.W.findIn X.K (.ref C) "__init__" = some (some (.ref fI))) (tI : PySem.W.typeIn X.K (.ref fI) = some (.type "function"))
    (F1 : FnOk X.prog X.w X.K X.mg X.base (L2.CX X.prog X.w) k fI fd ps (spXI X.K C f)) (hr : Room (k + 1) X.A) (hb : Binds X.K fd ps []) (hg : Gl X x) (hm : X.mg x = some (.ref C)) (ha : PA X (e :: es) ta)
    (hdb : (x == ("__debug__" : Str)) = false := by decide) (he : starEach (e :: es) X.env = (false, eval e X.env) :: starEach es X.env := by rfl) (hpl : (backTo pos (starEach es X.env)).any (·.1) = false := by rfl) :
    PMk X (.Call (.Name x p) (e :: es) [] pos) (tMkG C f ta) := by
  intro pins s σ H Q I h
  obtain ⟨bmB, newId, XB, hq0⟩ := T.bs
  obtain ⟨B, initId, FB⟩ := XB.fb
  obtain ⟨nm, N, q, bs, bm, sn, sub, ab, col, dd, k0, k1, k2, k3, k5, hC, hbm⟩ := xcls_cd hq0 T.hd
  refine wpAny_Call_Name_kw (ld_glob I hg hm ?_ hdb)
  refine PySem.W.callWith_K (h₀ := X.base) I.ok.mod.kin T.kC (thn (ha.run pos pins s σ H _ I h) fun us s1 ⟨vs, H1, I1, r1, y, ev, q1⟩ => ⟨I1.kIn, ?_⟩) he hpl
  subst ev
  show wpAny _ _ (call (.ref C) us) _ _ _
  obtain ⟨hp, g, dr, tk, os⟩ := s1
  have hsz : hp.objs.size ≤ hp.objs.size + 1 := Nat.le_succ _
  have hn : H1 (hp.objs.size + 1) = none := I1.hok.fresh hsz
  have kk : ∀ b o, hp.get? b = some o → ((hp.push (PySem.W.kdv_tup us)).push (PySem.HandSPX.excO C hp.objs.size)).get? b = some o := fun b o e => Heap.get?_push_of_some _ (Heap.get?_push_of_some _ e)
  have hget : ((hp.push (PySem.W.kdv_tup us)).push (PySem.HandSPX.excO C hp.objs.size)).get? (hp.objs.size + 1) = some (PySem.HandSPX.excO C hp.objs.size) := by heap_get
  have I2 : Inv X pins σ (upd H1 (hp.objs.size + 1) (exo (hp.objs.size + 1) C none)) ⟨(hp.push (PySem.W.kdv_tup us)).push (PySem.HandSPX.excO C hp.objs.size), g, dr, tk, os⟩ :=
    I1.laid (t' := tk) (a := hp.objs.size + 1) (o := exo (hp.objs.size + 1) C none) (h' := (hp.push (PySem.W.kdv_tup us)).push (PySem.HandSPX.excO C hp.objs.size)) kk hsz (exo_ok hget)
  have hq : spXI X.K C f [V.ref (hp.objs.size + 1), y] (upd H1 (hp.objs.size + 1) (exo (hp.objs.size + 1) C none)) (fun v H2 => v = .non ∧ ∃ (d : Addr) (fs : List (Str × V)), H2 (hp.objs.size + 1) = some (exo (hp.objs.size + 1) C (some d)) ∧ H2 d = some (exd d fs) ∧ H1 d = none ∧ Q (.ref C) (some d) (upd (del H2 (hp.objs.size + 1)) d (.xd fs))) (fun _ _ _ => False) := by
    refine ⟨_, y, rfl, upd_same, fun dx h1 h2 => ⟨rfl, dx, [(f, y)], upd_same, by rw [upd_ne h2, upd_same], by rwa [upd_ne h2] at h1, ?_⟩⟩
    have ed : upd (del (upd (upd (upd H1 (hp.objs.size + 1) (exo (hp.objs.size + 1) C none)) dx (exd dx [(f, y)])) (hp.objs.size + 1) (exo (hp.objs.size + 1) C (some dx))) (hp.objs.size + 1)) dx (.xd [(f, y)]) = upd H1 dx (.xd [(f, y)]) := by
      funext b
      by_cases hb : b = dx
      · subst hb; rw [upd_same, upd_same]
      · rw [upd_ne hb, upd_ne hb]
        by_cases hc : b = hp.objs.size + 1
        · subst hc; rw [del_same, hn]
        · rw [del_ne hc, upd_ne hc, upd_ne hb, upd_ne hc]
    rw [ed]
    exact q1 dx (by rwa [upd_ne h2] at h1)
  have r2 : Vals [V.ref (hp.objs.size + 1), y] (Value.ref (hp.objs.size + 1) :: us) := .cons rfl r1
  have hl : (Value.ref (hp.objs.size + 1) :: us ++ ([] : List Value)).length = ps.length := by
    rw [List.append_nil, ← r2.length]
    exact F1.len _ _ _ _ hq
  have hus : us.length ≤ sizeLine := by
    rw [← Paired.length r1, sizeLine_eq]
    show 1 ≤ _
    omega
  have hb' := hb ⟨(hp.push (PySem.W.kdv_tup us)).push (PySem.HandSPX.excO C hp.objs.size), g, dr, tk, os⟩ (Value.ref (hp.objs.size + 1) :: us) I2.kIn hl
  rw [List.append_nil] at hb'
  refine wpAny_call (PySem.HandSPX.call_own FB (fun Y => PySem.W.excTail_contains Y bm hbm) (I1.kIn _ _ hC) (PySem.W.looks_findIn I1.kIn iC) (fun self => PySem.W.bind_fn I1.kIn self tI) hus
    (codeAny_mono (F1.run _ X.stack _ _ ⟨Value.ref (hp.objs.size + 1) :: us, []⟩ (Value.ref (hp.objs.size + 1) :: us) _ _ (fun _ _ _ => False) (hr.make C us []) (I2.env0.make C us []) hb' r2 hq) fun r s' hq' => ?_))
  cases r with
  | error er => obtain ⟨_, _, _, _, _, _, _, _, _, _, _, _, z⟩ := hq'; exact z.elim
  | ok fl =>
    cases fl with
    | ret u =>
      obtain ⟨v, H2, os2, bare2, un2, hok2, rv, ev, d, fs, ea, ed, hd1, q2⟩ := hq'
      subst ev
      obtain ⟨h2, g2, d2, t2, os'⟩ := s'
      exact ⟨rv, mk_end (raises_own T.exC T.tyC) I1 hsz kk un2 hok2 os2 bare2 ea ed hd1 q2⟩
    | next => exact False.elim hq'
    | brk => exact False.elim hq'
    | cont => exact False.elim hq'

end

end DL









set_option maxHeartbeats 4000000

/-! DL29: try with several clauses; the exception in a suite is a value. -/

namespace DL

open PySem PySem.Spec PyProof.Rows L2

theorem flyingZ_keeps {B : Heap} {l : List PySem.Env} {a : Addr} {Z : Obj → Prop} {h h' : Heap} (f : HandSPX.FlyingZ B l a Z h) (k : ∀ b o, h.get? b = some o → h'.get? b = some o) : HandSPX.FlyingZ B l a Z h' := by
  obtain ⟨f1, f2, f3, oe, vs, T, oT, ts, he, hz, hd, h1, hn, hne, hT, hdT, h3⟩ := f
  exact ⟨fun b o q => k b o (f1 b o q), f2, f3.of_keeps fun b o q _ => ⟨o, k b o q, rfl⟩, oe, vs, T, oT, ts, k _ _ he, hz, hd, h1, hn, hne, k _ _ hT, hdT, h3⟩

theorem sky_none {B : Heap} {l : List PySem.Env} {a L : Addr} {Z : Obj → Prop} {h : Heap} (s : Sky B l a Z L h) : B.get? a = none := by
  rcases s with ⟨_, q, _⟩ | ⟨_, q, _⟩ | ⟨_, q, _⟩ <;> exact q

theorem exO_ok' {P : Program} {w : World} {H : Hp} {h : Heap} {a : Addr} {cls : Value} {d : Option Addr} {oe : Obj} {vs : Array Value} (e : h.get? a = some oe) (z : Zc cls d oe) (q : oe.data = .fields vs) : ObjOk P w H h a (DL.ExO cls d a) :=
  ⟨⟨oe, vs, e, z, q⟩, ⟨oe, e⟩, fun _ _ ⟨o, v, q, r⟩ k => ⟨o, v, k o q, r⟩⟩

section

variable {X : Cx} {pins : List (Addr × Obj)} {σ : L2.St} {H : Hp} {s sI : Shared} {a : Addr} {cls : Value} {d : Option Addr}

/-- into an except suite, the exception told -/
theorem inv_suiteT {oe : Obj} {vs : Array Value} (I : Inv X pins σ H s) (J : Inv X pins σ H sI) (ha : s.heap.get? a = some oe) (hz : Zc cls d oe) (hd : oe.data = .fields vs) (na : H a = none) (n0 : sI.heap.get? a = none) (nL : a ≠ X.env.locals) :
    Inv (X.suite a (X.pn ++ pins)) [] σ (upd H a (DL.ExO cls d a)) s := by
  have ne0 : ∀ b o, X.s_0.heap.get? b = some o → b ∉ X.ex → b ≠ a := fun b o e hx z => by
    obtain ⟨o', e'⟩ := J.base.there b o e hx
    rw [z, n0] at e'
    cases e'
  have neH : ∀ {b u}, H b = some u → b ≠ a := fun {b u} e z => by
    rw [z, na] at e
    cases e
  refine ⟨I.ok.suite _ _, I.os, I.bare, ⟨I.base.keep, I.base.slot, fun b o e n hx => ?_, I.base.there, fun b xs e => ?_, fun b o u e => ?_, fun b ps e => ?_⟩, I.loc, I.cell, ?_, fun x c e => ?_, fun p hp => ?_, fun b u e => ?_, I.len⟩
  · rw [upd_ne (ne0 b o e hx)]; exact I.base.free b o e n hx
  · have q := I.base.tups b xs e
    rw [upd_ne (neH q)]; exact q
  · have q := I.base.frzs b o u e
    rw [upd_ne (neH q)]; exact q
  · obtain ⟨m, q⟩ := I.base.tbls b ps e
    exact ⟨m, by rw [upd_ne (neH q)]; exact q⟩
  · show upd H a _ X.env.locals = none
    rw [upd_ne (Ne.symm nL)]; exact I.free
  · have hc : c ≠ a := fun z => by
      obtain ⟨v, o, ho, hdc⟩ := I.cell x c e
      rw [z, ha] at ho
      cases ho
      rw [hd] at hdc
      cases hdc
    rw [upd_ne hc]; exact I.freeC x c e
  · have hp' : p ∈ X.pn ++ pins := by simpa using hp
    obtain ⟨e, n, ne, nf, q⟩ := I.pin p hp'
    have hne : p.1 ≠ a := fun z => by
      have e' := (J.pin p hp').1
      rw [z, n0] at e'
      cases e'
    exact ⟨e, by rw [upd_ne hne]; exact n, ne, nf, q⟩
  · by_cases hb : b = a
    · subst hb
      rw [upd_same] at e
      cases e
      exact exO_ok' ha hz hd
    · rw [upd_ne hb] at e
      exact (I.hok b u e).stay (fun c v _ q => q) (fun c q => by rw [upd_ne (neH q)]; exact q) fun c xs q => by rw [upd_ne (neH q)]; exact q

theorem inv_unsuiteT {pn' : List (Addr × Obj)} (I : Inv (X.suite a (X.pn ++ pins)) pn' σ H s) (ok : X.Ok) : Inv X pins σ H s :=
  ⟨ok, I.os, I.bare, I.base, I.loc, I.cell, I.free, I.freeC, fun p hp => I.pin p (List.mem_append_left _ hp), I.hok, I.len⟩

end

/-! ### the classes that a clause names -/

/-- the value that a name of a class has -/
def CvOf (mg : Str → Option Value) (x : Str) (c : Value) : Prop := mg x = some c ∨ (mg x = none ∧ bootBuiltins x = some c)

theorem CvOf.uniq {mg : Str → Option Value} {x : Str} {c c' : Value} (h : CvOf mg x c) (h' : CvOf mg x c') : c = c' := by
  rcases h with h | ⟨h1, h2⟩ <;> rcases h' with q | ⟨q1, q2⟩
  · rw [h] at q; exact Option.some.inj q
  · rw [h] at q1; cases q1
  · rw [h1] at q; cases q
  · rw [h2] at q2; exact Option.some.inj q2

/-- which exceptions each clause takes: (class, name in the clause, whether) -/
abbrev XTab := List (Str × Str × Bool)

def XTabOk (K : PySem.W.Frag) (mg : Str → Option Value) (t : XTab) : Prop := ∀ p ∈ t, ∀ c n, CvOf mg p.1 c → CvOf mg p.2.1 n → PySem.W.exmOne K c n = some p.2.2

def XTab.look (t : XTab) (C N : Str) : Option Bool := (t.find? fun p => p.1 == C && p.2.1 == N).map (·.2.2)

def XTab.any (t : XTab) (C : Str) : List Str → Option Bool
  | [] => some false
  | N :: r => match t.look C N, t.any C r with
    | some a, some b => some (a || b)
    | _, _ => none

theorem XTab.look_ok {K : PySem.W.Frag} {mg : Str → Option Value} {t : XTab} (h : XTabOk K mg t) {C N : Str} {b : Bool} (e : t.look C N = some b) {c n : Value} (hc : CvOf mg C c) (hn : CvOf mg N n) : PySem.W.exmOne K c n = some b := by
  unfold XTab.look at e
  cases q : t.find? fun p => p.1 == C && p.2.1 == N with
  | none => rw [q] at e; cases e
  | some p =>
    rw [q] at e
    cases e
    have hm := List.mem_of_find?_eq_some q
    have z := List.find?_some q
    simp only [Bool.and_eq_true, beq_iff_eq] at z
    exact h p hm c n (by rw [z.1]; exact hc) (by rw [z.2]; exact hn)

/-- the value that the name x in a clause tells -/
def NameV (X : Cx) (x : Str) (c : Value) : Prop := Names X x c

theorem NameV.cv {X : Cx} {x : Str} {c : Value} (h : NameV X x c) : CvOf X.mg x c := h.2.2.imp id fun q => ⟨q.1, q.2.1⟩

inductive NamesV (X : Cx) : List Str → List Value → Prop
  | nil : NamesV X [] []
  | cons {x : Str} {c : Value} {xs : List Str} {cs : List Value} : NameV X x c → NamesV X xs cs → NamesV X (x :: xs) (c :: cs)

theorem XTab.any_ok {X : Cx} {t : XTab} (h : XTabOk X.K X.mg t) {C : Str} {c : Value} (hc : CvOf X.mg C c) : ∀ {xs : List Str} {cs : List Value} {b : Bool}, NamesV X xs cs → t.any C xs = some b → PySem.W.exmAny X.K c cs = some b
  | [], _, b, .nil, e => by cases e; rfl
  | N :: r, _, b, .cons hn hr, e => by
    unfold XTab.any at e
    split at e
    · rename_i u v h1 h2
      cases e
      unfold PySem.W.exmAny
      rw [t.look_ok h h1 hc hn.cv, t.any_ok h hc hr h2]
    · cases e

/-- the test of a clause -/
def TestX (X : Cx) (t : Expr) (xs : List Str) : Prop := ∃ cs, NamesV X xs cs ∧ ∀ (a : Addr) (pn pins : List (Addr × Obj)) (σ : L2.St) (H : Hp) (s : Shared) (cls : Value) (b : Bool) (Q : Bool → Shared → Prop) (E : Value → Shared → Prop),
  PySem.W.exmAny X.K cls cs = some b → Inv (X.suite a pn) pins σ H s → PySem.W.Looks (model X.prog X.w) s.heap (typeOf (.ref a)) cls → (∀ h', (∀ q o, s.heap.get? q = some o → h'.get? q = some o) → Q b { s with heap := h' }) →
    wpAny (model X.prog X.w) (X.A.mark (some (.ref a))) (eval t X.env) (fun c s1 => wpAny (model X.prog X.w) (X.A.mark (some (.ref a))) (excMatches (.ref a) c) Q E s1) E s

section

variable {X : Cx} {x x1 x2 x3 : Str} {p p1 p2 p3 : Pos} {kk : Nat}

theorem name_ev {c : Value} {a : Addr} {pn pins : List (Addr × Obj)} {σ : L2.St} {H : Hp} {s : Shared} {Q : Value → Shared → Prop} {E : Value → Shared → Prop} (hc : NameV X x c) (S : Inv (X.suite a pn) pins σ H s) (q : Q c s) :
    wpAny (model X.prog X.w) (X.A.mark (some (.ref a))) (eval (.Name x p) X.env) Q E s := by
  obtain ⟨hg, hdbg, hm | ⟨hm, hv, hnn⟩⟩ := hc
  · exact ld_glob (X := X.suite a pn) S hg hm q hdbg
  · exact ld_blt (X := X.suite a pn) S hg hm hv q hnn hdbg

theorem exmAny_one {K : PySem.W.Frag} {cls c : Value} {b : Bool} (h : PySem.W.exmAny K cls [c] = some b) : PySem.W.exmOne K cls c = some b := by
  obtain ⟨b1, d1, h1, h2, h3⟩ := PySem.W.exmAny_cons h
  cases h2
  rw [h1, h3, Bool.or_false]

theorem test_1 (hc : ∃ c, NameV X x c) : TestX X (.Name x p) [x] := by
  obtain ⟨c, hc⟩ := hc
  refine ⟨[c], .cons hc .nil, fun a pn pins σ H s cls b Q E he S LT q => name_ev hc S ?_⟩
  exact (PySem.W.exm_one S.kIn LT (exmAny_one he)).here (q s.heap fun _ _ z => z)

theorem test_3 (h1 : ∃ c, NameV X x1 c) (h2 : ∃ c, NameV X x2 c) (h3 : ∃ c, NameV X x3 c) : TestX X (.Tuple [.Name x1 p1, .Name x2 p2, .Name x3 p3] kk p) [x1, x2, x3] := by
  obtain ⟨c1, h1⟩ := h1
  obtain ⟨c2, h2⟩ := h2
  obtain ⟨c3, h3⟩ := h3
  refine ⟨[c1, c2, c3], .cons h1 (.cons h2 (.cons h3 .nil)), fun a pn pins σ H s cls b Q E he S LT q => ?_⟩
  refine wpAny_Tuple ?_
  refine wpAny_items_cons (name_ev h1 S ?_)
  refine wpAny_items_cons (name_ev h2 S ?_)
  refine wpAny_items_cons (name_ev h3 S ?_)
  refine wpAny_items_nil ⟨by size_fits, ?_⟩
  have kp : ∀ q o, s.heap.get? q = some o → (s.heap.push { cls := .type "tuple", data := .seq [c1, c2, c3].toArray }).get? q = some o := fun _ _ z => Heap.get?_push_of_some _ z
  exact (PySem.W.exm_tup3 (S.kIn.keeps kp) (LT.keeps kp) (Heap.get?_push_size s.heap rfl) he).here (q _ kp)

end


/-! ### the rule -/

/-- what a suite's context gives -/
structure CxH (X : Cx) (k : Nat) : Prop where
  gd : X.A.guards = some []
  rh : L2H.RoomH k X.A

theorem CxH.u64 {X : Cx} {k : Nat} (c : CxH X k) : X.A.units + 64 < cLine := by have := c.rh.un; omega

structure Hd where
  cs : List Str
  i : Option Nat
  v : SM

def mHs (t : XTab) (ow : List Str) (x : Exn) : List Hd → SM
  | [], ρ => ex x ρ
  | h :: r, ρ => match t.any x.cls h.cs with
    | some true => match h.i with
      | none => (h.v ρ).bind fun r => match r.1 with
        | .ex _ => M.bad
        | f => M.one (f, r.2)
      | some i => if ow.contains x.cls then (h.v (ρ.set i (some (.d (.exc x.cls x.fs))))).bind fun r => match r.1 with
        | .rt s => M.one (.rt s, r.2)
        | _ => M.bad
        else M.bad
    | some false => mHs t ow x r ρ
    | none => M.bad

def tryM (t : XTab) (ow : List Str) (l : List Hd) (m : MS) : MS := m.bind fun r => match r.1 with
  | .ex x => mHs t ow x l r.2
  | f => M.one (f, r.2)

def mTry (t : XTab) (ow : List Str) (u : SM) (l : List Hd) : SM := fun ρ => tryM t ow l (u ρ)

def NmOk (X : Cx) : Option Str → Option Nat → Prop
  | none, none => True
  | some n, some i => X.N[i]? = some n ∧ X.env.kindOf n = some .local
  | _, _ => False

inductive HdQ (X : Cx) (G : Gx) (k : Nat) : List ExceptHandler → List Hd → Prop
  | nil : HdQ X G k [] []
  | cons {te : Expr} {xs : List Str} {b₀ : Stmt} {suite : List Stmt} {nm : Option Str} {i : Option Nat} {v : SM} {pos' : Pos} {hds : List ExceptHandler} {l : List Hd} (ht : TestX X te xs) (hn : NmOk X nm i)
      (hsu : ∀ (a : Addr) (pn : List (Addr × Obj)), CxH (X.suite a pn) k → QSs (X.suite a pn) G noT (b₀ :: suite) v) (r : HdQ X G k hds l) : HdQ X G k (.ExceptHandler (some te) nm (b₀ :: suite) pos' :: hds) (⟨xs, i, v⟩ :: l)

theorem rmH_mark {k : Nat} {A : Around} (r : Room k A) (h : Option Value) : L2H.RoomH k (A.mark h) := ⟨r.dp, r.un⟩

/-- a thrown exception as a value -/
theorem exAt_dn {K : PySem.W.Frag} {W : Wd} {H : Hp} {x : Exn} {c : Value} {d : Option Addr} {a Ca : Addr} (e : ExAt K W H x c d) (hC : W.g x.cls = some (.ref Ca)) (hF : ∀ b, W.F b → H b ≠ none) (na : H a = none) : Dn K (W.add a) (upd H a (ExO c d a)) (.exc x.cls x.fs) (.ref a) := by
  have l : Le W H (W.add a) (upd H a (ExO c d a)) := .add fun b q => upd_ne fun z => hF b q (by rw [z]; exact na)
  obtain ⟨hc, hd⟩ := e
  have ec : c = .ref Ca := by
    rcases hc with q | ⟨q, _⟩
    · rw [hC] at q; exact (Option.some.inj q).symm
    · rw [hC] at q; cases q
  subst ec
  rcases hd with ⟨rfl, ef⟩ | ⟨b, vs, rfl, hb, e1, e2⟩
  · rw [ef]; exact .exc0 (.inr rfl) hC upd_same
  · exact .exc (.inr rfl) (.inl hb) hC upd_same ((l.k b hb).trans e1) (e2.le l)

section

variable {X : Cx} {G : Gx} {T : WX} {body : List Stmt} {hds : List ExceptHandler} {l : List Hd} {h₀ : ExceptHandler} {u : SM} {pos : Pos} {t : XTab} {ow : List Str} {k : Nat}

theorem qs_try (C : CxG X T k) (hG : G.W.g = X.mg) (ht : XTabOk X.K X.mg t) (how : ∀ c ∈ ow, ∃ Ca, X.mg c = some (.ref Ca))
    (hb : ∀ (T' : WX) (pn : List (Addr × Obj)) (xe : Value → Shared → Prop), CxG (X.tr pn xe) T' k → QSs (X.tr pn xe) G T' body u) (hh : HdQ X G k (h₀ :: hds) l)
    (hN : X.N.Nodup) (hs : X.stack = X.env :: X.outer := by rfl) (hf : X.env.frame = some X.env.locals := by rfl) : QS X G T (.Try body (h₀ :: hds) [] [] pos) (mTry t ow u l) := by
  refine ⟨fun pins s σ H D I ⟨W, ρ, E, oks, h, hnx, hrt, hbk, hct, hex⟩ => ?_⟩
  have ok := I.ok
  have hfr : X.A.frames = some (X.env :: X.outer) := by rw [ok.frames, hs]
  have h : (u ρ.sl).wp ρ.mm fun r μ => (match r.1 with | .ex x => mHs t ow x l r.2 | f => M.one (f, r.2)).wp μ (flC E) := h
  -- what the clauses wish of an exception of the body
  let T' : WX := fun cls d σ' H' => ∃ x ρ' W', (mHs t ow x l ρ'.sl).wp ρ'.mm (flC E) ∧ Ok X.K G W' ρ' σ' H' ∧ Le W H W' H' ∧ ExAt X.K W' H' x cls d
  have hbody : lS X.K G T' (ts u) D σ H := by
    refine ⟨W, ρ, ⟨E.nx, E.rt, E.bk, E.ct, fun x ρ' => (mHs t ow x l ρ'.sl).wp ρ'.mm (flC E)⟩, oks, ?_, hnx, hrt, hbk, hct, fun x ρ' W' σ' H' c dx z o l' e => ⟨x, ρ', W', z, o, l', e⟩⟩
    exact (u ρ.sl).mono (fun r μ q => by
      obtain ⟨r1, r2⟩ := r
      cases r1 <;> exact q) h
  refine wpAny_Try_except ?_
  refine wpAny_mono ((hb T' (X.pn ++ pins) (fun e s₁ => wpAny (model X.prog X.w) X.A (noteFrame e X.env) (fun _ s₂ => wpAny (model X.prog X.w) X.A (setFlight e none) (fun _ s₃ =>
    wpAny (model X.prog X.w) X.A (handleBy e X.env (h₀ :: hds)) (SP X pins D) X.xe s₃) X.xe s₂) X.xe s₁) ⟨fun u' s' xx => ?_, C.gd, C.rm, PassesOwn.looking⟩).run [] s σ H D (I.toTry _) hbody) (fun f s1 hsp => ?_) (fun e s1 he => he)
  · -- the catch
    obtain ⟨a, B, sI, pins', σ', H', cls, d, rfl, J', nb, up, sky, na, os, ag, w⟩ := xx
    have J : Inv X pins σ' H' sI := J'.ofTry ok
    have sky' : Sky B (X.env :: X.outer) a (Zc cls d) X.env.locals s'.heap := by rw [← hs]; exact sky
    have hBa := sky_none sky'
    show wpAny (model X.prog X.w) X.A (noteFrame (.ref a) X.env) _ _ _
    refine Sky.land Zc.steady hfr hf sky' fun h3 fl3 up3 => ?_
    have J3 : Inv X pins σ' H' { s' with heap := h3 } := J.landed nb fl3.1 (up.trans up3) os ag
    obtain ⟨oe3, vs3, he3, hz3, hd3⟩ := fl3.there
    have notFr : ∀ {h : Heap} {o : Obj} {vs : Array Value}, h.FunFrames B (X.env :: X.outer) → h.get? a = some o → o.data = .fields vs → a ∉ frs (X.env :: X.outer) := fun {h o vs} ff e dd hm => by
      obtain ⟨_, o', e', hnf⟩ := ff.mem hm
      rw [e] at e'; cases e'
      exact hnf _ dd
    have nfr := notFr fl3.2.2.1 he3 hd3
    have nL : a ≠ X.env.locals := fun z => nfr (List.mem_filterMap.mpr ⟨X.env, List.mem_cons_self, by rw [hf, z]⟩)
    have nI : sI.heap.get? a = none := by
      cases q : sI.heap.get? a with
      | none => rfl
      | some o =>
        have z := nb a o q (by rw [hs]; exact nfr)
        rw [hBa] at z
        cases z
    obtain ⟨x, ρ', W', hw, ok', le', ex'⟩ := w
    have gW : W'.g = X.mg := (ok'.en.le.g).trans hG
    have cvx : CvOf X.mg x.cls cls := by
      have q := ex'.1
      unfold Wd.cv at q
      rw [gW] at q
      exact q
    have okA := Go.newF (o := ExO cls d a) ok' na
    have go : ∀ {hds' : List ExceptHandler} {l' : List Hd}, HdQ X G k hds' l' → (mHs t ow x l' ρ'.sl).wp ρ'.mm (flC E) → ∀ hc, HandSPX.FlyingZ B (X.env :: X.outer) a (Zc cls d) hc → s'.heap.UpToSlots hc →
        wpAny (model X.prog X.w) X.A (handleBy (.ref a) X.env hds') (SP X pins D) X.xe { s' with heap := hc } := by
      intro hds' l' hk
      induction hk with
      | nil =>
        intro w hc flc upc
        refine wpAny_handleBy_nil ?_
        obtain ⟨k1, k2, k3, oe, vs, T0, oT, ts', he, hz, hd, h1, hr⟩ := id flc
        unfold PySem.passOn
        refine wpAny_bind (wpAny_field he hd h1 ?_)
        rw [if_neg (show ¬ ((Value.ref T0 == Value.none) = true) from by simp)]
        have fin : wpAny (model X.prog X.w) X.A (setFlight (.ref a) X.env.frame) (fun _ s4 => wpAny (model X.prog X.w) X.A (throw (.ref a) : Sem Flow) (SP X pins D) X.xe s4) X.xe { s' with heap := hc } := by
          rw [hf]
          refine HandSPX.setFlight_upZ flc fun h4 hh4 up4 => wpAny_throw (C.tk _ _ ?_)
          exact ⟨a, B, sI, pins, σ', H', cls, d, rfl, J, nb, up.trans (upc.trans up4), .inr (.inr (by rw [hs]; exact hh4)), na, os, ag, hex x ρ' W' σ' H' cls d w ok' le' ex'⟩
        first
          | exact wpAny_bind (wpAny_pure (wpAny_bind fin))
          | exact wpAny_bind fin
      | @cons te xs b₀ suite nm i v pos' hds2 l2 htest hn hsu r ih =>
        intro w hc flc upc
        have Jc : Inv X pins σ' H' { s' with heap := hc } := J.landed nb flc.1 (up.trans upc) os ag
        obtain ⟨oec, vsc, hec, hzc, hdc⟩ := flc.there
        have Sc := inv_suiteT Jc J hec hzc hdc na nI nL
        obtain ⟨cs, hcs, htr⟩ := htest
        have LT : PySem.W.Looks (model X.prog X.w) hc (typeOf (.ref a)) cls := fun A Q E s k q => wpAny_typeOf_ref (k _ _ hec) (by rw [hzc.1]; exact q)
        unfold mHs at w
        cases hb1 : t.any x.cls xs with
        | none => rw [hb1] at w; exact w.elim
        | some b =>
          rw [hb1] at w
          have hex1 := t.any_ok ht cvx hcs hb1
          refine wpAny_handleBy_cons (codeAny_handlers_test ?_) (by intro q; cases q)
          refine htr a _ _ _ _ _ cls b _ _ hex1 Sc LT fun h' kp => ?_
          have flk : HandSPX.FlyingZ B (X.env :: X.outer) a (Zc cls d) h' := flyingZ_keeps flc kp
          have upk : s'.heap.UpToSlots h' := upc.trans (Heap.UpToSlots.of_keeps kp)
          cases b with
          | false => exact ih w h' flk upk
          | true =>
            have H2 : CxH (X.suite a (X.pn ++ pins)) k := ⟨C.gd, rmH_mark C.rm _⟩
            have Q2 := hsu a (X.pn ++ pins) H2
            cases nm with
            | none =>
              cases i with
              | some i => exact hn.elim
              | none =>
                refine codeAny_handlers_suite ?_
                refine HandSPX.lands_againZ flk fun h4 fl4 up4 => ?_
                have J4 : Inv X pins σ' H' { s' with heap := h4 } := J.landed nb fl4.1 (up.trans (upk.trans up4)) os ag
                obtain ⟨oe4, vs4, he4, hz4, hd4⟩ := fl4.there
                have S4 := inv_suiteT J4 J he4 hz4 hd4 na nI nL
                have hs4 : lS (X.suite a (X.pn ++ pins)).K G noT (ts v) D σ' (upd H' a (ExO cls d a)) := by
                  refine ⟨W'.add a, ρ', ⟨E.nx, E.rt, E.bk, E.ct, fun _ _ => False⟩, okA.ok, ?_, hnx.le (le'.trans okA.stp.le), hrt.le (le'.trans okA.stp.le), hbk.le (le'.trans okA.stp.le), hct.le (le'.trans okA.stp.le), fun _ _ _ _ _ _ _ z => z.elim⟩
                  have w : (v ρ'.sl).wp ρ'.mm fun r μ => (match r.1 with | .ex _ => M.bad | f => M.one (f, r.2)).wp μ (flC E) := w
                  exact (v ρ'.sl).mono (fun r μ q => by
                    obtain ⟨r1, r2⟩ := r
                    cases r1 <;> exact q) w
                refine wpAny_mono (Q2.run [] _ σ' _ D S4 hs4) (fun f s6 hsp => ?_) (fun _ _ z => False.elim z)
                cases f with
                | next =>
                  obtain ⟨σ6, H6, S6, q6⟩ := hsp
                  exact ⟨_, _, inv_unsuiteT S6 ok, q6⟩
                | brk =>
                  obtain ⟨σ6, H6, S6, q6⟩ := hsp
                  exact ⟨_, _, inv_unsuiteT S6 ok, q6⟩
                | cont =>
                  obtain ⟨σ6, H6, S6, q6⟩ := hsp
                  exact ⟨_, _, inv_unsuiteT S6 ok, q6⟩
                | ret u =>
                  obtain ⟨v6, σ6, H6, S6, r6, q6⟩ := hsp
                  exact ⟨_, _, _, inv_unsuiteT S6 ok, r6, q6⟩
            | some n =>
              cases i with
              | none => exact hn.elim
              | some i =>
                obtain ⟨hi, hln⟩ := hn
                have hloc : Loc X.env.scope n := .inl hln
                refine codeAny_handlers_suite_as ?_
                refine HandSPX.lands_againZ flk fun h4 fl4 up4 => ?_
                have J4 : Inv X pins σ' H' { s' with heap := h4 } := J.landed nb fl4.1 (up.trans (upk.trans up4)) os ag
                obtain ⟨oe4, vs4, he4, hz4, hd4⟩ := fl4.there
                have S4 := inv_suiteT J4 J he4 hz4 hd4 na nI nL
                have w : (if ow.contains x.cls then (v (ρ'.sl.set i (some (.d (.exc x.cls x.fs))))).bind fun r => (match r.1 with | .rt s => M.one (.rt s, r.2) | _ => M.bad : MS) else M.bad).wp ρ'.mm (flC E) := w
                by_cases hown : ow.contains x.cls = true
                · rw [if_pos hown] at w
                  obtain ⟨Ca, hCa⟩ := how x.cls (by simpa using hown)
                  have dn := exAt_dn (a := a) ex' (by rw [gW]; exact hCa) (fun b hb z => by obtain ⟨o, e⟩ := ok'.al.f b hb; rw [z] at e; cases e) na
                  refine store_ok (X := X.suite a (X.pn ++ pins)) (v := .ref a) S4 hN hi hloc rfl (fun s5 S5 => ?_) (.inr hln)
                  have hs5 : lS (X.suite a (X.pn ++ pins)).K G noT (ts v) ⟨fun _ _ => False, D.rt, fun _ _ => False, fun _ _ => False⟩ (σ'.set i (some (.ref a))) (upd H' a (ExO cls d a)) := by
                    refine ⟨W'.add a, ρ'.set i (some (.d (.exc x.cls x.fs))), ⟨fun _ => False, E.rt, fun _ => False, fun _ => False, fun _ _ => False⟩, okA.ok.set (i := i) (d := .d _) dn (fun o => by cases o), ?_, fun _ _ _ _ z => z.elim, hrt.le (le'.trans okA.stp.le), fun _ _ _ _ z => z.elim, fun _ _ _ _ z => z.elim, fun _ _ _ _ _ _ _ z => z.elim⟩
                    exact (v _).mono (fun r μ q => by
                      obtain ⟨r1, r2⟩ := r
                      cases r1 <;> exact q) w
                  refine wpAny_mono (Q2.run [] s5 _ _ _ S5 hs5) (fun f s6 hsp => ?_) (fun _ _ z => False.elim z)
                  cases f with
                  | next => obtain ⟨_, _, _, z⟩ := hsp; exact z.elim
                  | brk => obtain ⟨_, _, _, z⟩ := hsp; exact z.elim
                  | cont => obtain ⟨_, _, _, z⟩ := hsp; exact z.elim
                  | ret u =>
                    obtain ⟨v6, σ6, H6, S6, r6, q6⟩ := hsp
                    exact gone_ok (inv_unsuiteT S6 ok) hN hi hln fun s7 J7 => ⟨_, _, _, J7, r6, q6⟩
                · rw [if_neg hown] at w; exact w.elim
    exact go hh hw h3 fl3 up3
  · cases f with
    | next =>
      obtain ⟨σ', H', J', q⟩ := hsp
      exact wpAny_execs_nil ⟨σ', H', J'.ofTry ok, q⟩
    | brk =>
      obtain ⟨σ', H', J', q⟩ := hsp
      exact ⟨σ', H', J'.ofTry ok, q⟩
    | cont =>
      obtain ⟨σ', H', J', q⟩ := hsp
      exact ⟨σ', H', J'.ofTry ok, q⟩
    | ret u =>
      obtain ⟨v, σ', H', J', r, q⟩ := hsp
      exact ⟨v, σ', H', J'.ofTry ok, r, q⟩

end

end DL








set_option maxHeartbeats 4000000

/-! DL30: raise, an exception's attribute, isinstance of an exception, calls within an except suite. -/

namespace DL

open PySem PySem.Spec PyProof.Rows L2

/-! ### classes of exceptions -/

def XK1 (K : PySem.W.Frag) (mg : Str → Option Value) (C f : Str) : Prop :=
  ∃ Ca fI fd s p, mg C = some (.ref Ca) ∧ XCls K Ca ∧ PySem.W.findIn K (.ref Ca) "__init__" = some (some (.ref fI)) ∧ PySem.W.typeIn K (.ref fI) = some (.type "function") ∧ Binds K fd [s, p] [] ∧
    ∀ (P : Program) (w : World) (base : Heap), FnOk P w K mg base (L2.CX P w) 1 fI fd [s, p] (spXI K Ca f)

/-- instances of the class, told as exceptions -/
structure XIns (K : PySem.W.Frag) (C : Addr) : Prop where
  hd : PySem.W.hasDictIn K C = true
  ga : PySem.W.findIn K (.ref C) "__getattribute__" = some (some (.builtin "BaseException.__getattribute__"))
  gg : PySem.W.findIn K (.ref C) "__getattr__" = some none
  exC : PySem.W.subIn K (.ref C) (.type "BaseException") = some true
  ha : PySem.W.findIn K (.ref C) "__class__" = some (some (.builtin "object.__class__"))
  hn : PySem.W.specialIn K (.builtin "object.__class__") "__get__" = some (some (.builtin "getset_descriptor.__get__"))
  ht : PySem.W.takesIn K (.builtin "object.__class__") = some true
  hm : PySem.W.mroIn K C (.type "object") = some true

/-- the attributes of which classes may be read -/
def XFldOk (K : PySem.W.Frag) (mg : Str → Option Value) (t : List (Str × Str)) : Prop := ∀ p ∈ t, ∃ Ca, mg p.1 = some (.ref Ca) ∧ XIns K Ca ∧ PySem.W.findIn K (.ref Ca) p.2 = some none

/-- isinstance of which classes -/
def XIsOk (K : PySem.W.Frag) (mg : Str → Option Value) (t : XTab) : Prop := ∀ p ∈ t, ∃ Ca, mg p.1 = some (.ref Ca) ∧ XIns K Ca ∧ ∀ n, CvOf mg p.2.1 n → PySem.W.kitOne K (.ref Ca) n = some p.2.2

theorem XTab.look_is {K : PySem.W.Frag} {mg : Str → Option Value} {t : XTab} (h : XIsOk K mg t) {C N : Str} {b : Bool} (e : t.look C N = some b) : ∃ Ca, mg C = some (.ref Ca) ∧ XIns K Ca ∧ ∀ n, CvOf mg N n → PySem.W.kitOne K (.ref Ca) n = some b := by
  unfold XTab.look at e
  cases q : t.find? fun p => p.1 == C && p.2.1 == N with
  | none => rw [q] at e; cases e
  | some p =>
    rw [q] at e
    cases e
    have hm := List.mem_of_find?_eq_some q
    have z := List.find?_some q
    simp only [Bool.and_eq_true, beq_iff_eq] at z
    obtain ⟨Ca, h1, h2, h3⟩ := h p hm
    exact ⟨Ca, by rw [← z.1]; exact h1, h2, by rw [← z.2]; exact h3⟩

/-! ### raise -/

def mRaise0 (C : Str) : SM := fun ρ => ex ⟨C, []⟩ ρ

def mRaise1 (C f : Str) (w : EM S) : SM := fun ρ => bindES (w ρ) fun d ρ1 => ex ⟨C, [(f, d.frz)]⟩ ρ1

section

variable {X : Cx} {G : Gx} {T : WX} {e a : Expr} {w ma : EM S} {C f N : Str} {p pos pos' p2 : Pos} {k : Nat}

theorem qs_raise1 (Cx : CxG X T k) (hG : G.W.g = X.mg) (F : XK1 X.K X.mg C f) (hk : 2 ≤ k) (ha : QE X G T e w) (hc : X.calm = true := by rfl) (hg : Gl X C := by rfl) (hdb : (C == ("__debug__" : Str)) = false := by decide)
    (he : starEach [e] X.env = (false, eval e X.env) :: starEach [] X.env := by rfl) (hpl : (backTo pos (starEach [] X.env)).any (·.1) = false := by rfl) :
    QS X G T (.Raise (some (.Call (.Name C p) [e] [] pos)) none pos') (mRaise1 C f w) := by
  obtain ⟨Ca, fI, fd, s, q, hm, XC, h1, h2, h3, F⟩ := F
  have hA : PA X [e] (lA X.K G T (wCons (tw w) wNil)) := da_cons ha da_nil he
  refine ps_weak (ps_raise hc Cx.tk (pmk_oexG (k := 1) XC h1 h2 (F X.prog X.w X.base) (Cx.rm.mono hk) h3 hg hm hA hdb he hpl)) fun D σ H ⟨W, ρ, E, ok, h, _, _, _, _, hex⟩ => ?_
  have h : (bindES (w ρ.sl) fun d ρ1 => ex ⟨C, [(f, d.frz)]⟩ ρ1).wp ρ.mm (flC E) := h
  rw [twS] at h
  refine ⟨W, ρ, fun ds ρ' => ∃ d, ds = [d] ∧ E.ex ⟨C, [(f, d)]⟩ ρ', fun x ρ' => E.ex x ρ', ok, ?_, fun ds ρ1 W1 xs H1 ⟨d, e1, e2⟩ g1 da => ?_, fun x ρ' W' H' c dx z g' e' => hex x ρ' W' σ H' c dx z g'.ok g'.stp.le e'⟩
  · show tw w E.ex ρ fun s ρ1 => ∃ d, [s.frz] = [d] ∧ _
    exact (w ρ.sl).mono (fun r μ q => by
      obtain ⟨r1, r2⟩ := r
      cases r1 with
      | v s => exact ⟨s.frz, rfl, q⟩
      | x z => exact q) h
  · subst e1
    obtain ⟨y, ey, dy⟩ := da.one
    subst ey
    refine ⟨y, rfl, fun dx hn => ?_⟩
    have g2 := g1.trans (Go.newF (o := .xd [(f, y)]) g1.ok hn)
    have l2 := (Go.newF (o := .xd [(f, y)]) g1.ok hn).stp.le
    exact hex _ ρ1 _ σ _ _ _ e2 g2.ok g2.stp.le ⟨.inl (by rw [g2.ok.en.le.g, hG]; exact hm), .inr ⟨dx, [(f, y)], rfl, .inr rfl, upd_same, .cons (dy.le l2) .nil⟩⟩

/-! ### an exception's attribute -/

def xfM (t : List (Str × Str)) (f : Str) : D → M (Oc S)
  | .exc C fs => if t.contains (C, f) then (match fs.lookup f with
    | some d => val (.d d)
    | none => M.bad) else M.bad
  | _ => M.bad

def mXf (t : List (Str × Str)) (f : Str) (w : EM S) : EM S := fun ρ => bindE (w ρ) fun d ρ1 => put (xfM t f d.frz) ρ1

theorem exc_at {K : PySem.W.Frag} {W : Wd} {H : Hp} {C : Str} {fs : List (Str × D)} {x : V} (h : Dn K W H (.exc C fs) x) :
    ∃ a Ca d, x = .ref a ∧ W.g C = some (.ref Ca) ∧ H a = some (ExO (.ref Ca) d a) ∧ ((d = none ∧ fs = []) ∨ ∃ dx vs, d = some dx ∧ H dx = some (.xd vs) ∧ DnF K W H fs vs) := by
  cases h with
  | exc0 h1 h2 h3 => exact ⟨_, _, _, rfl, h2, h3, .inl ⟨rfl, rfl⟩⟩
  | exc h1 h2 h3 h4 h5 h6 => exact ⟨_, _, _, rfl, h3, h4, .inr ⟨_, _, rfl, h5, h6⟩⟩

theorem exO_at {P : Program} {w : World} {H : Hp} {h : Heap} {a : Addr} {cls : Value} {d : Option Addr} (hok : HOk P w H h) (e : H a = some (ExO cls d a)) : ∃ oe vs, h.get? a = some oe ∧ Zc cls d oe ∧ oe.data = .fields vs := by
  have x : ObjOk P w H h a (.ext fun h => ∃ (oe : Obj) (fs : Array Value), h.get? a = some oe ∧ Zc cls d oe ∧ oe.data = .fields fs) := hok a _ e
  exact x.1

theorem qe_xf {t : List (Str × Str)} (hG : G.W.g = X.mg) (ht : XFldOk X.K X.mg t) (ha : QE X G T a ma) (hb : attributeBase a f X.env (eval a X.env) = eval a X.env := by rfl) : QE X G T (.Attribute a f pos) (mXf t f ma) := by
  refine ⟨fun pins s σ H Q I ⟨W, ρ, R, Z, ok, h, hR, hZ⟩ => ?_⟩
  have h : (bindE (ma ρ.sl) fun d ρ1 => put (xfM t f d.frz) ρ1).wp ρ.mm fun r μ => r.1.elim (fun a => R a ⟨r.2, μ⟩) fun e => Z e ⟨r.2, μ⟩ := h
  rw [twE] at h
  have arg : lE X.K G T (tw ma) σ H fun x H1 => ∃ d W1 ρ1, Go X.K G σ ρ W H ρ1 W1 H1 ∧ Dn X.K W1 H1 d x ∧ (xfM t f d).wp ρ1.mm fun r μ => r.elim (fun s => R s ⟨ρ1.sl, μ⟩) fun e => Z e ⟨ρ1.sl, μ⟩ := by
    refine lE_then (R := fun d ρ1 => (xfM t f d).wp ρ1.mm fun r μ => r.elim (fun s => R s ⟨ρ1.sl, μ⟩) fun e => Z e ⟨ρ1.sl, μ⟩) ok h hZ fun d ρ1 W1 x H1 h1 g1 d1 => ⟨d, W1, ρ1, g1, d1, h1⟩
  refine attr_of hb (thn (ha.run pins s σ H _ I arg) fun uv s1 ⟨x, H1, I1, rx, d, W1, ρ1, g1, d1, h1⟩ => ?_)
  cases d with
  | exc C fs =>
    simp only [xfM] at h1
    by_cases hc : t.contains (C, f) = true
    · rw [if_pos hc] at h1
      cases hl : fs.lookup f with
      | none => rw [hl] at h1; exact h1.elim
      | some y =>
        rw [hl] at h1
        obtain ⟨Ca, hm, XI, hno⟩ := ht (C, f) (by simpa using hc)
        obtain ⟨a', Cb, dd, rfl, hC, hO, hd⟩ := exc_at d1
        rw [g1.ok.en.le.g, hG, hm] at hC
        cases hC
        obtain rfl : uv = Value.ref a' := rx
        obtain ⟨oe, vs', hget, hz, hf⟩ := exO_at I1.hok hO
        rcases hd with ⟨_, e⟩ | ⟨dx, vs, rfl, hx, hfs⟩
        · rw [e] at hl; cases hl
        obtain ⟨v, hv, dv⟩ := hfs.lookup hl
        have hxo : ObjOk X.prog X.w H1 s1.heap dx (.xd vs) := I1.hok dx _ hx
        obtain ⟨mA, hns, hr⟩ := hxo
        obtain ⟨od, ho, hlk⟩ := lookIn_ns hns
        obtain ⟨u, hu, ru⟩ := RelO.some_of (v := v) (o := mA f) (by rw [← hv]; exact hr f)
        have J : PySem.W.InstAt s1.heap a' oe Ca (some od) := ⟨hget, hz.1, by unfold PySem.W.notCls; rw [hf] <;> rfl, by rw [hz.2]; exact ho⟩
        exact HandSPX.exc_get I1.kIn J XI.ga XI.gg XI.exC (PySem.W.findObj_own XI.hd hno rfl (by rw [hlk, hu])) (handed_of ru) ⟨v, H1, I1.tok _, ru, hR _ _ W1 v H1 h1 g1 (.of dv)⟩
    · rw [if_neg hc] at h1; exact h1.elim
  | _ => exact h1.elim

/-! ### isinstance of an exception -/

def xisM (t : XTab) (N : Str) : D → M (Oc S)
  | .exc C _ => match t.look C N with
    | some b => val (.d (.bl b))
    | none => M.bad
  | _ => M.bad

def mXis (t : XTab) (N : Str) (w : EM S) : EM S := fun ρ => bindE (w ρ) fun d ρ1 => put (xisM t N d.frz) ρ1

/-- a class's name, as a value: an own class, a built-in one -/
def NmG (mg : Str → Option Value) (N : Str) : Prop := (∃ a, mg N = some (.ref a)) ∨ (mg N = none ∧ (∃ n, bootBuiltins N = some (.type n)) ∧ N ≠ "__name__")

theorem pe_nm (hc : NmG X.mg N) (hg : Gl X N) (hd : (N == ("__debug__" : Str)) = false) : ∃ (c : Value) (x : V), CvOf X.mg N c ∧ (∀ u, RelV x u → u = c) ∧ (PE X (.Name N p) (tC x)) := by
  rcases hc with ⟨a, h⟩ | ⟨h1, ⟨n, h2⟩, h3⟩
  · exact ⟨.ref a, .ref a, .inl h, fun u r => r, pe_glob hg h rfl hd⟩
  · exact ⟨.type n, .ty n, .inr ⟨h1, h2⟩, fun u r => r, pe_bltn hg h1 h2 rfl h3 hd⟩

def rIsX (K : PySem.W.Frag) : List V → Hp → VK → Prop := fun xs H Q => ∃ (a Ca : Addr) (d : Option Addr) (x : V) (c : Value) (b : Bool), xs = [.ref a, x] ∧ H a = some (ExO (.ref Ca) d a) ∧ (∀ dx, d = some dx → ∃ vs, H dx = some (.xd vs)) ∧ XIns K Ca ∧ (∀ u, RelV x u → u = c) ∧ PySem.W.kitOne K (.ref Ca) c = some b ∧ Q (.bl b) H

theorem call_isX : CallR X (.builtin "isinstance") (rIsX X.K) := by
  intro pins s σ H xs us Q I r h
  obtain ⟨a, Ca, d, x, c, b, rfl, hO, hd, XI, hcv, e, q⟩ := h
  cases r with
  | cons rx rr =>
    cases rr with
    | cons rt rr =>
      cases rr
      cases rx
      have ec := hcv _ rt
      subst ec
      obtain ⟨oe, vs, hget, hz, hv⟩ := exO_at I.hok hO
      have J : ∃ od, PySem.W.InstAt s.heap a oe Ca od := by
        cases d with
        | none => exact ⟨none, hget, hz.1, by unfold PySem.W.notCls; rw [hv] <;> rfl, by rw [hz.2]; trivial⟩
        | some dx =>
          obtain ⟨ws, hx⟩ := hd dx rfl
          have hxo : ObjOk X.prog X.w H s.heap dx (.xd ws) := I.hok dx _ hx
          obtain ⟨mA, hns, hr⟩ := hxo
          obtain ⟨od, ho, hlk⟩ := lookIn_ns hns
          exact ⟨some od, hget, hz.1, by unfold PySem.W.notCls; rw [hv] <;> rfl, by rw [hz.2]; exact ho⟩
      obtain ⟨od, J⟩ := J
      exact PySem.W.kia_one (PySem.W.kitx_exc (by obtain ⟨cd, hc, _⟩ := PySem.W.any_some XI.hd; rw [hc]; rfl) XI.ga XI.gg XI.exC XI.ha XI.hn XI.ht XI.hm) I.kIn J e (fun z => nomatch z) fun tk => ⟨.bl b, H, I.kept (t' := tk) fun _ _ z => z, rfl, q⟩

theorem qe_xis {t : XTab} (hG : G.W.g = X.mg) (ht : XIsOk X.K X.mg t) (hn : X.mg "isinstance" = none) (hN : NmG X.mg N) (ha : QE X G T a ma) (hgi : Gl X "isinstance" := by rfl) (hgl : Gl X N := by rfl) (hdb : (N == ("__debug__" : Str)) = false := by decide)
    (he : starEach [a, .Name N p2] X.env = (false, eval a X.env) :: starEach [.Name N p2] X.env := by rfl) (he2 : starEach [.Name N p2] X.env = (false, eval (.Name N p2) X.env) :: starEach [] X.env := by rfl) (hpl : (backTo pos (starEach [.Name N p2] X.env)).any (·.1) = false := by rfl) :
    QE X G T (.Call (.Name "isinstance" p) [a, .Name N p2] [] pos) (mXis t N ma) := by
  obtain ⟨c, y, hcv, hy, hpe⟩ := pe_nm (p := p2) hN hgl hdb
  refine pe_weak (pe_callB call_isX hgi hn (by decide +kernel) (pa_cons ha (pa_cons hpe pa_nil he2) he) (by decide) (by decide) he hpl) fun σ H Q ⟨W, ρ, R, Z, ok, h, hR, hZ⟩ => ?_
  have h : (bindE (ma ρ.sl) fun d ρ1 => put (xisM t N d.frz) ρ1).wp ρ.mm fun r μ => r.1.elim (fun a => R a ⟨r.2, μ⟩) fun e => Z e ⟨r.2, μ⟩ := h
  rw [twE] at h
  refine lE_then (R := fun d ρ1 => (xisM t N d).wp ρ1.mm fun r μ => r.elim (fun s => R s ⟨ρ1.sl, μ⟩) fun e => Z e ⟨ρ1.sl, μ⟩) ok h hZ fun d ρ1 W1 x H1 h1 g1 d1 => ?_
  cases d with
  | exc C fs =>
    simp only [xisM] at h1
    cases hl : t.look C N with
    | none => rw [hl] at h1; exact h1.elim
    | some b =>
      rw [hl] at h1
      obtain ⟨Ca, hm, XI, hk⟩ := t.look_is ht hl
      obtain ⟨a', Cb, dd, rfl, hC, hO, hd⟩ := exc_at d1
      rw [g1.ok.en.le.g, hG, hm] at hC
      cases hC
      refine ⟨a', Ca, dd, y, c, b, rfl, hO, fun dx e => ?_, XI, hy, hk c hcv, hR _ _ W1 _ H1 h1 g1 (.of (.bl b))⟩
      rcases hd with ⟨e', _⟩ | ⟨dy, vs, e', hx, _⟩
      · rw [e'] at e; cases e
      · rw [e'] at e; cases e; exact ⟨vs, hx⟩
  | _ => exact h1.elim

end

/-! ### calls within an except suite -/

/-- the context of a def's body that is called there -/
def cxHot (P : Program) (w : World) (K : PySem.W.Frag) (mg : Str → Option Value) (base : Heap) (N : List Str) (qual : Str) (scope : Scope) (f : Addr) (cd : Value) (A : Around) (outer : List PySem.Env) (s : Shared) (H : Hp) : Cx :=
  { cxOf (L2.CX P w) P w K mg base N qual scope f cd A outer s H (fun _ _ _ => False) with calm := false }

theorem inv_startHot {P : Program} {w : World} {K : PySem.W.Frag} {mg : Str → Option Value} {base : Heap} {N ps : List Str} {qual : Str} {scope : Scope} {f : Addr} {cd : Value} {A : Around} {outer : List PySem.Env} {s s1 : Shared} {H : Hp} {us : List Value} {vs : List V}
    (S : FnScope N ps scope) (e0 : Env0 P w K mg base A outer s H) (hl : vs.length = ps.length) (r : Vals vs us)
    (x : InCallC s s.heap.objs.size (PySem.bindL (envOfC qual scope s.heap.objs.size f cd).kindOf (ps.zip us) fun _ => none) (cellsFrom (s.heap.objs.size + 1) scope.names []) (bindC (envOfC qual scope s.heap.objs.size f cd).kindOf (ps.zip us) fun _ => none) s1) :
    Inv (cxHot P w K mg base N qual scope f cd A outer s H) [] (L2.start N vs) H s1 := by
  have hpl : ps.length ≤ N.length := by have := congrArg List.length S.pre; rw [List.length_take] at this; omega
  obtain ⟨h1, tk, rfl, hk⟩ := x.done
  have noA : ∀ b : Addr, b ∉ (cxHot P w K mg base N qual scope f cd A outer s H).ex := fun b z => absurd (show b ∈ ([] : List Addr) from z) (by simp)
  refine ⟨⟨e0.mod, S.kind, rfl, rfl, Nat.le_refl _, fun y z c h1 h2 => ?_, fun y hy => ?_, fun y c _ h => ?_, (fun z => Bool.noConfusion (show false = true from z)), Around.frames_deeper e0.frames, .inr ⟨rfl, rfl⟩, fun b z => absurd z (noA b), e0.bs, e0.bsz, fun b _ _ => noA b, fun b z => absurd z (noA b), e0.funs, e0.frf⟩,
    rfl, e0.bare, Un.kept hk, ⟨_, x.toInCall.ns, fun i y v h1 h2 h3 => ?_⟩, fun y c h => ⟨_, x.cell y c h⟩, e0.hok.fresh (Nat.le_refl _), fun y c h => ?_, fun q hq => absurd (show q ∈ ([] : List (Addr × Obj)) ++ [] from hq) (by simp), e0.hok.kept hk, ?_⟩
  · exact name_of_addr x.apart (PySem.mem_of_lookup h1) (PySem.mem_of_lookup h2)
  · have hy : scope.names.lookup y = some .cell ∨ scope.names.lookup y = some .free := hy
    rcases hy with hy | hy
    · exact cell_has hy
    · exact absurd rfl (S.nofree _ (PySem.mem_of_lookup hy))
  · exact Nat.le_of_lt (x.above y c (PySem.mem_of_lookup h))
  · have hi : i < vs.length := by
      unfold L2.start at h2
      by_cases hi : i < vs.length
      · exact hi
      · rw [List.getElem?_append_right (by simpa using hi)] at h2
        rw [List.getElem?_replicate] at h2
        split at h2 <;> cases h2
    have ha : vs[i]? = some v := by
      unfold L2.start at h2
      rw [List.getElem?_append_left (by simpa using hi), List.getElem?_map] at h2
      cases e : vs[i]? with
      | none => rw [e] at h2; cases h2
      | some a => rw [e] at h2; cases h2; rfl
    obtain ⟨u, hu, rv⟩ := r.get ha
    have hp : ps[i]? = some y := by
      rw [← S.pre, List.getElem?_take_of_lt (by omega)]; exact h1
    have ndP : ps.Nodup := by rw [← S.pre]; exact S.nd.sublist (List.take_sublist _ _)
    refine ⟨u, rv, ?_⟩
    rcases S.par y (List.mem_of_getElem? hp) with k | k
    · exact .inl ⟨k, L2.bindL_get ndP hp hu k⟩
    · obtain ⟨c, e⟩ := cell_has (n := s.heap.objs.size + 1) k
      refine .inr ⟨.inl k, c, e, ?_⟩
      have q := x.cell y c e
      rw [bindC_get ndP hp hu (by show scope.names.lookup y ≠ _; rw [k]; decide)] at q
      exact q
  · exact e0.hok.fresh (Nat.le_of_lt (x.above y c (PySem.mem_of_lookup h)))
  · unfold L2.start
    show _ = N.length
    rw [List.length_append, List.length_map, List.length_replicate]
    omega

/-- the def at f, called in an except suite; it raises nothing -/
def FnGH (P : Program) (w : World) (K : PySem.W.Frag) (mg : Str → Option Value) (base : Heap) (k : Nat) (f : Addr) (fd : FuncData) (ps : List Str) (wf : WF) : Prop :=
  ∀ (A : Around) (outer : List PySem.Env) (s : Shared) (H : Hp) (args : Args) (us : List Value) (vs : List V) (ds : List D) (W : Wd) (μ : Mem) (R : S → Mem → Prop) (Q : VK),
    A.guards = some [] → L2H.RoomH k A → Env0 P w K mg base A outer s H → BindsTo s fd args (ps.zip us) → Vals vs us → ds.length = ps.length → Al W H → Cells K W μ H → W.g = mg → DnA K W H ds vs → wf (fun _ _ => False) ds μ R →
    (∀ d μ' W' x H', R d μ' → Ret K W H W' H' d μ' x → Q x H') →
    codeAny (model P w) A (.call (.ref f) args) (CR (L2.CX P w) outer P w H s Q (fun _ _ _ => False)) s

def DfH (P : Program) (w : World) (K : PySem.W.Frag) (mg : Str → Option Value) (base : Heap) (k : Nat) (x : Str) (st : Stmt) (ps : List Str) (wf : WF) : Prop :=
  ∃ f fd, mg x = some (.ref f) ∧ Fun K x x st f fd ∧ Binds K fd ps [] ∧ FnGH P w K mg base k f fd ps wf

section

variable {P : Program} {w : World} {K : PySem.W.Frag} {mg : Str → Option Value} {base : Heap}

theorem ok_defH {x qual : Str} {st : Stmt} {f : Addr} {fd : FuncData} {N ps : List Str} {k : Nat} {wf : WF} {wb : WS} (F : Fun K x qual st f fd) (Sc : FnScope N ps (defScope st))
    (hw : ∀ ds μ R, ds.length = ps.length → wf (fun _ _ => False) ds μ R → wb ⟨fun ρ => R (.d .non) ρ.mm, R, fun _ => False, fun _ => False, fun _ _ => False⟩ (rho0 N ds μ))
    (hb : ∀ (cdv : Value) (A : Around) (outer : List PySem.Env) (s : Shared) (H : Hp) (W : Wd), W.g = mg → CxH (cxHot P w K mg base N qual (defScope st) f cdv A outer s H) k →
      DSs (cxHot P w K mg base N qual (defScope st) f cdv A outer s H) ⟨W, H⟩ noT (defBody st) wb) :
    FnGH P w K mg base (k + 1) f fd ps wf := by
  intro A outer s H args us vs ds W μ R Q hg hr e0 hbd r hlen al mm hgm da hwf hQ
  obtain ⟨oc, od, kV, doc, pm, an, cdv, ct, osl, rfl, lk, hcd⟩ := F.ex
  have hl : vs.length = ps.length := by rw [← da.length]; exact hlen
  have inK : K.In s.heap := e0.mod.kin.keeps fun b o q => (e0.bs b o q).1
  have noLim : s.heap.NoLimit := e0.mod.nolimit.keeps fun b o q => (e0.bs b o q).1
  have kinds : ∀ y ∈ ps.zip us, (defScope st).names.lookup y.1 = some .local ∨ ((defScope st).names.lookup y.1 = some .cell ∧ ((cellsFrom (s.heap.objs.size + 1) (defScope st).names []).lookup y.1).isSome = true) := fun ⟨n, v⟩ hy =>
    (Sc.par n (List.of_mem_zip hy).1).imp id fun q => ⟨q, PySem.W.cellsFrom_some _ _ _ (.inl q)⟩
  refine codeAny_call_function hr.depth (inK _ _ lk) rfl Sc.co Sc.gen rfl (PySem.W.codeRec_of inK hcd) (hbd _ _ _ _ ?_)
  refine wpAny_newFunctionEnv_cells Sc.kind kinds fun env he s1 xx => ?_
  subst he
  refine ⟨noLim.keeps xx.toInCall.keep, codeAny_func ?_⟩
  have I : Inv (cxHot P w K mg base N qual (defScope st) f cdv A outer s H) [] (L2.start N vs) H s1 := inv_startHot Sc e0 hl r xx
  have C : CxH (cxHot P w K mg base N qual (defScope st) f cdv A outer s H) k := ⟨hg, hr.deeper _⟩
  have D := hb cdv A outer s H W hgm C
  have body := hw ds μ R hlen hwf
  have ok0 := start_ok (N := N) al mm da
  refine wpAny_mono (D.run [] s1 (L2.start N vs) H { nx := fun _ H' => Q .non H', rt := Q } I ⟨W, rho0 N ds μ, _, ok0, body, fun ρ' W' σ' H' h o l => ?_, fun d ρ' W' σ' y H' h o l rr => ?_, fun _ _ _ _ q => q.elim, fun _ _ _ _ q => q.elim, fun z ρ' W' σ' H' c dx h o l ex => h.elim⟩) (fun fl s' hs => ?_) fun e s' hs => hs
  · exact hQ _ _ W' _ H' h ⟨o.al, o.en, .of .non, o.mm⟩
  · exact hQ _ _ W' _ H' h ⟨o.al, o.en, rr, o.mm⟩
  have fin : ∀ {σ' : L2.St} {H' : Hp} {v : V} {u : Value}, Inv (cxHot P w K mg base N qual (defScope st) f cdv A outer s H) [] σ' H' s' → RelV v u → Q v H' → CE outer P w H s Q u s' :=
    fun {σ' H' v u} J rv q => ⟨v, H', J.os, J.bare, J.base, J.hok, rv, q⟩
  match fl, hs with
  | .ret u, ⟨v, σ', H', J, rv, q⟩ => exact fin J rv q
  | .next, ⟨σ', H', J, q⟩ => exact fin (v := V.non) (u := Value.none) J rfl q
  | .brk, ⟨_, _, _, q⟩ => exact False.elim q
  | .cont, ⟨_, _, _, q⟩ => exact False.elim q

/-- a def's reading, called in an except suite -/
theorem df_qH {x : Str} {st : Stmt} {N ps : List Str} {k : Nat} {b : SM} {f : FM} (r : Raw K mg x st) (Sc : FnScope N ps (defScope st))
    (hbi : ∀ (kV doc pm : Value) (an : Option Addr) (cdv ct : Value) (us : List Value), us.length = ps.length → bindArgs (PySem.W.fnOf x x (defArgs st) (defBody st) (defScope st) .none kV doc pm an cdv ct) ⟨us, []⟩ = pure (ps.zip us))
    (hf : ∀ ds, ds.length = ps.length → (defM b N ds).le (f ds))
    (hb : ∀ (f : Addr) (cdv : Value) (A : Around) (outer : List PySem.Env) (s : Shared) (H : Hp) (W : Wd), W.g = mg → CxH (cxHot P w K mg base N x (defScope st) f cdv A outer s H) k →
      QSs (cxHot P w K mg base N x (defScope st) f cdv A outer s H) ⟨W, H⟩ noT (defBody st) b) : DfH P w K mg base (k + 1) x st ps (tf f) := by
  obtain ⟨fa, fd, h1, F⟩ := r
  refine ⟨fa, fd, h1, F, F.binds hbi, ok_defH F Sc (fun ds μ R hl h => ?_) (hb fa)⟩
  have q := hf ds hl μ _ h
  unfold defM at q
  rw [ts_out] at q
  exact q

end

section

variable {X : Cx} {G : Gx} {T : WX} {k j : Nat} {ps : List Str} {f : FM}

theorem de_callH {wf : WF} {x : Str} {st : Stmt} {p pos : Pos} {e : Expr} {es : List Expr} {u : WA} (C : CxH X k) (hG : G.W.g = X.mg) (F : DfH X.prog X.w X.K X.mg X.base j x st ps wf) (hj : j ≤ k)
    (ha : DA X G T (e :: es) u) (hg : Gl X x := by rfl) (hdb : (x == ("__debug__" : Str)) = false := by decide) (he : starEach (e :: es) X.env = (false, eval e X.env) :: starEach es X.env := by rfl) (hpl : (backTo pos (starEach es X.env)).any (·.1) = false := by rfl) :
    DE X G T (.Call (.Name x p) (e :: es) [] pos) (fun Z ρ R => u Z ρ fun ds ρ1 => ds.length = ps.length ∧ wf (fun _ _ => False) ds ρ1.mm fun s μ => R s ⟨ρ1.sl, μ⟩) := by
  obtain ⟨fa, fd, hm, Fu, hb, F⟩ := F
  refine ⟨fun pins s σ H Q I ⟨W, ρ, R, Z, ok, h, hR, hZ⟩ => ?_⟩
  refine wpAny_Call_Name_kw (ld_glob I hg hm ?_ hdb)
  have args : lA X.K G T u σ H fun vs H1 => ∃ ds W1 ρ1, Go X.K G σ ρ W H ρ1 W1 H1 ∧ DnA X.K W1 H1 ds vs ∧ ds.length = ps.length ∧ wf (fun _ _ => False) ds ρ1.mm fun s μ => R s ⟨ρ1.sl, μ⟩ :=
    ⟨W, ρ, _, Z, ok, h, fun ds ρ1 W1 xs H1 ⟨h1, h2⟩ g d => ⟨ds, W1, ρ1, g, d, h1, h2⟩, hZ⟩
  refine PySem.W.callWith_K (h₀ := X.base) I.ok.mod.kin Fu.kp (thn (ha.run pos pins s σ H _ I args) fun us s1 ⟨vs, H1, I1, r, ds, W1, ρ1, g, d, h1, h2⟩ => ⟨I1.kIn, ?_⟩) he hpl
  have e' : (us ++ ([] : List Value)).length = ps.length := by rw [List.append_nil, ← r.length, ← d.length]; exact h1
  have hb' := hb s1 us I1.kIn e'
  rw [List.append_nil] at hb'
  show wpAny (model X.prog X.w) X.A (call (.ref fa) us) (EP X pins σ Q) X.xe s1
  refine wpAny_call (codeAny_mono (F X.A X.stack s1 H1 ⟨us, []⟩ us vs ds W1 ρ1.mm (fun s μ => R s ⟨ρ1.sl, μ⟩) Q C.gd (L2H.RoomH.mono C.rh hj) I1.env0 hb' r h1 g.ok.al g.ok.mm (g.ok.en.le.g.trans hG) d h2
    (fun d' μ W' x' H' hr rt => hR d' _ W' x' H' hr (g.trans (g.ok.grow rt.stp rt.al rt.mm)) (rt.res.up g.stp.up))) fun r' s' hq => ?_)
  match r', hq with
  | .error e, hq => obtain ⟨_, _, _, _, _, _, _, _, _, _, _, _, z⟩ := hq; exact z.elim
  | .ok (.ret v), hq => exact I1.after hq

/-- f(..) there -/
def mCallH (n : Nat) (f : FM) (u : EM (List D)) : EM S := fun ρ => bindE (u ρ) fun ds ρ1 => ((put ((f ds).bind fun r => r.elim (fun s => val s) fun _ => M.bad) ρ1)).req (ds.length = n)

theorem qe_callH {nps : Nat} {x : Str} {st : Stmt} {p pos : Pos} {e : Expr} {es : List Expr} {u : EM (List D)} (C : CxH X k) (hG : G.W.g = X.mg) (F : DfH X.prog X.w X.K X.mg X.base j x st ps (tf f)) (hj : j ≤ k)
    (ha : QA X G T (e :: es) u) (hn : ps.length = nps := by rfl) (hg : Gl X x := by rfl) (hdb : (x == ("__debug__" : Str)) = false := by decide) (he : starEach (e :: es) X.env = (false, eval e X.env) :: starEach es X.env := by rfl) (hpl : (backTo pos (starEach es X.env)).any (·.1) = false := by rfl) :
    QE X G T (.Call (.Name x p) (e :: es) [] pos) (mCallH nps f u) := by
  subst hn
  refine pe_weak (de_callH C hG F hj ha hg hdb he hpl) fun σ H Q ⟨W, ρ, R, Z, ok, h, hR, hZ⟩ => ⟨W, ρ, R, Z, ok, ?_, hR, hZ⟩
  have h : (bindE (u ρ.sl) fun ds ρ1 => ((put ((f ds).bind fun r => r.elim (fun s => val s) fun _ => M.bad) ρ1)).req (ds.length = ps.length)).wp ρ.mm fun r μ => r.1.elim (fun a => R a ⟨r.2, μ⟩) fun e => Z e ⟨r.2, μ⟩ := h
  rw [twE] at h
  refine (u ρ.sl).mono (fun r μ q => ?_) h
  obtain ⟨r1, r2⟩ := r
  cases r1 with
  | x z => exact q
  | v ds =>
    obtain ⟨q1, q2⟩ := q
    refine ⟨q1, ?_⟩
    exact (f ds).mono (fun r μ z => by cases r <;> exact z) q2

end

end DL







set_option maxHeartbeats 4000000

/-! DL31: a lambda without parameters handed to a def. -/

namespace DL

open PySem PySem.Spec PyProof.Rows L2 LamX

/-- what f(), f a lambda told at s0, comes to -/
structure LamG (P : Program) (w : World) (K : PySem.W.Frag) (mg : Str → Option Value) (base : Heap) (outer : List PySem.Env) (f : Addr) (j : Nat) (s0 : Shared) (H0 : Hp) (W0 : Wd) (m : M (Oc S)) : Prop where
  obj : ∃ q params body scope cl pm c' ctv, s0.heap.get? f = some (PySem.W.kla_obj "<lambda>" q params body scope cl pm c' ctv)
  hn : H0 f = none
  fr : f ∉ frs outer
  run : ∀ (A' : Around) (env' : PySem.Env) (s' : Shared) (H' : Hp) (W' : Wd) (μ : Mem) (R : S → Mem → Prop) (Z : Exn → Mem → Prop) (Q : VK) (E : XK),
    A'.guards = some [] → Room (j + 1) A' → Env0 P w K mg base A' (env' :: outer) s' H' → Un (frs outer) [] H0 H' s0.heap s'.heap → Step no1 W0 H0 W' H' → Al W' H' → Cells K W' μ H' →
    (m.wp μ fun r μ' => r.elim (fun s => R s μ') fun e => Z e μ') →
    (∀ d μ1 W1 x H1, R d μ1 → Ret K W' H' W1 H1 d μ1 x → Q x H1) → (∀ x μ1 W1 H1 c dx, Z x μ1 → RetX K W' H' W1 H1 x μ1 c dx → E c dx H1) →
    codeAny (model P w) A' (.call (.ref f) ⟨[], []⟩) (CR (L2.CX P w) (env' :: outer) P w H' s' Q E) s'

theorem LamG.mono {P : Program} {w : World} {K : PySem.W.Frag} {mg : Str → Option Value} {base : Heap} {outer : List PySem.Env} {f : Addr} {j k : Nat} {s0 : Shared} {H0 : Hp} {W0 : Wd} {m : M (Oc S)} (L : LamG P w K mg base outer f j s0 H0 W0 m) (h : j ≤ k) : LamG P w K mg base outer f k s0 H0 W0 m :=
  ⟨L.obj, L.hn, L.fr, fun A' env' s' H' W' μ R Z Q E hg hr => L.run A' env' s' H' W' μ R Z Q E hg (hr.mono (by omega))⟩

/-! ### f() in the def that got it -/

def mAct (i : Nat) (f : Addr) (m : M (Oc S)) : EM S := fun ρ => (put m ρ).req (ρ[i]? = some (some (.d (.v (.ref f)))))

section

variable {X : Cx} {G : Gx} {T : WX} {k j : Nat} {f : Addr} {m : M (Oc S)} {a : Str} {p p2 : Pos}

theorem qe_act (i : Nat) (C : CxG X T k) (hj : j + 1 ≤ k) (hL : LamG X.prog X.w X.K X.mg X.base X.outer f j X.s_0 G.H G.W m) (hGH : G.H = X.H_0 := by rfl) (hs : X.stack = X.env :: X.outer := by rfl) (hex : X.ex = [] := by rfl)
    (hN : X.N[i]? = some a := by rfl) (hv : Vis X.env.scope a := by first | exact Or.inl rfl | exact Or.inr (Or.inl rfl) | exact Or.inr (Or.inr rfl)) (hd : (a == ("__debug__" : Str)) = false := by decide) (hcd : (a == ("__classdict__" : Str)) = false := by decide) :
    QE X G T (.Call (.Name a p) [] [] p2) (mAct i f m) := by
  refine ⟨fun pins s σ H Q I ⟨W, ρ, R, Z, ok, h, hR, hZ⟩ => ?_⟩
  have h : ρ.sl[i]? = some (some (.d (.v (.ref f)))) ∧ m.wp ρ.mm fun r μ => r.elim (fun s => R s ⟨ρ.sl, μ⟩) fun e => Z e ⟨ρ.sl, μ⟩ := by
    obtain ⟨h1, h2⟩ := h
    exact ⟨h1, by rw [tw_put] at h2; exact h2⟩
  obtain ⟨hi, hm⟩ := h
  obtain ⟨x, e, r⟩ := ok.val i _ hi
  have r' : Dn X.K W H (.v (.ref f)) x := r
  cases r'
  refine wpAny_Call_Name_kw (thn ((pe_var (pos := p) (i := i) hN hv hd hcd).run pins s σ H (fun v H1 => v = .ref f ∧ H1 = H) I ⟨.ref f, e, rfl, rfl⟩) fun u s1 ⟨v, H1, I1, r1, q1⟩ => ?_)
  obtain ⟨ev, eH⟩ := q1
  subst ev
  subst eH
  obtain rfl : u = Value.ref f := r1
  obtain ⟨q, params, body, scope, cl, pm, c', ctv, hget⟩ := hL.obj
  have of1 := I1.base.keep f _ hget (by rw [← hGH]; exact hL.hn) hL.fr (by rw [hex]; simp)
  refine PySem.W.callWith_F0 ⟨_, _, _, _, of1⟩ ?_
  have un : Un (frs X.outer) [] G.H H1 X.s_0.heap s1.heap := by
    have z := I1.base
    rw [hex] at z
    rw [hGH]
    exact z
  have rc := hL.run X.A X.env s1 H1 W ρ.mm (fun s μ => R s ⟨ρ.sl, μ⟩) (fun e μ => Z e ⟨ρ.sl, μ⟩) Q (fun c dx H' => T c dx σ H') C.gd (C.rm.mono hj) (by rw [← hs]; exact I1.env0) un ok.en ok.al ok.mm hm
    (fun d μ1 W1 x1 H2 hr rt => hR d ⟨ρ.sl, μ1⟩ W1 x1 H2 hr (ok.grow rt.stp rt.al rt.mm) rt.res) (fun x1 μ1 W1 H2 c dx hz rt => hZ x1 ⟨ρ.sl, μ1⟩ W1 H2 c dx hz (ok.grow rt.stp rt.al rt.mm) rt.ex)
  refine wpAny_call (codeAny_mono rc fun r s' hq => ?_)
  rw [← hs] at hq
  match r, hq with
  | .error e, hq => exact C.tk e s' (XE.of_call (W := T) I1 (fun _ _ _ q => q) hq)
  | .ok (.ret u), hq => exact I1.after hq

end

/-! ### the def -/

def FnL (P : Program) (w : World) (K : PySem.W.Frag) (mg : Str → Option Value) (base : Heap) (k : Nat) (g : Addr) (F : Addr → M (Oc S) → M (Oc S)) : Prop :=
  ∀ (A : Around) (outer : List PySem.Env) (s : Shared) (H : Hp) (W : Wd) (μ : Mem) (f : Addr) (m : M (Oc S)) (R : S → Mem → Prop) (Z : Exn → Mem → Prop) (Q : VK) (E : XK),
    A.guards = some [] → Room (k + 2) A → Env0 P w K mg base A outer s H → LamG P w K mg base outer f k s H W m → Al W H → Cells K W μ H → W.g = mg →
    ((F f m).wp μ fun r μ' => r.elim (fun s => R s μ') fun e => Z e μ') →
    (∀ d μ' W' x H', R d μ' → Ret K W H W' H' d μ' x → Q x H') → (∀ x μ' W' H' c dx, Z x μ' → RetX K W H W' H' x μ' c dx → E c dx H') →
    codeAny (model P w) A (.call (.ref g) ⟨[.ref f], []⟩) (CR (L2.CX P w) outer P w H s Q E) s

/-- the def x, of one parameter, a lambda -/
def DfL (P : Program) (w : World) (K : PySem.W.Frag) (mg : Str → Option Value) (base : Heap) (k : Nat) (x : Str) (F : Addr → M (Oc S) → M (Oc S)) : Prop :=
  ∃ g, mg x = some (.ref g) ∧ PySem.W.keepIn K (.ref g) = true ∧ FnL P w K mg base k g F

def defL (b : Addr → M (Oc S) → SM) (N : List Str) : Addr → M (Oc S) → M (Oc S) := fun fa m => out (b fa m (sl0 N [.v (.ref fa)]))

theorem df_qL {P : Program} {w : World} {K : PySem.W.Frag} {mg : Str → Option Value} {base : Heap} {x a : Str} {st : Stmt} {N : List Str} {k : Nat} {b : Addr → M (Oc S) → SM} (r : Raw K mg x st) (Sc : FnScope N [a] (defScope st))
    (hbi : ∀ (kV doc pm : Value) (an : Option Addr) (cdv ct : Value) (us : List Value), us.length = 1 → bindArgs (PySem.W.fnOf x x (defArgs st) (defBody st) (defScope st) .none kV doc pm an cdv ct) ⟨us, []⟩ = pure ([a].zip us))
    (hb : ∀ (fa : Addr) (m : M (Oc S)) (f : Addr) (cdv : Value) (A : Around) (outer : List PySem.Env) (s : Shared) (H : Hp) (E : XK) (W : Wd), W.g = mg → CxG (cxOf (L2.CX P w) P w K mg base N x (defScope st) f cdv A outer s H E) (fun cls d _ H => E cls d H) (k + 1) →
      LamG P w K mg base outer fa k s H W m → QSs (cxOf (L2.CX P w) P w K mg base N x (defScope st) f cdv A outer s H E) ⟨W, H⟩ (fun cls d _ H => E cls d H) (defBody st) (b fa m)) : DfL P w K mg base k x (defL b N) := by
  obtain ⟨g, fd, h1, Fu⟩ := r
  refine ⟨g, h1, Fu.kp, ?_⟩
  intro A outer s H W μ f m R Z Q E hg hr e0 hL al mm hgm hwf hQ hE
  have bi := Fu.binds (ps := [a]) hbi
  obtain ⟨oc, od, kV, doc, pm, an, cdv, ct, osl, rfl, lk, hcd⟩ := Fu.ex
  have inK : K.In s.heap := e0.mod.kin.keeps fun b o q => (e0.bs b o q).1
  have noLim : s.heap.NoLimit := e0.mod.nolimit.keeps fun b o q => (e0.bs b o q).1
  have kinds : ∀ y ∈ [a].zip [Value.ref f], (defScope st).names.lookup y.1 = some .local ∨ ((defScope st).names.lookup y.1 = some .cell ∧ ((cellsFrom (s.heap.objs.size + 1) (defScope st).names []).lookup y.1).isSome = true) := fun ⟨n, v⟩ hy =>
    (Sc.par n (List.of_mem_zip hy).1).imp id fun q => ⟨q, PySem.W.cellsFrom_some _ _ _ (.inl q)⟩
  have hbd := bi s [.ref f] inK rfl
  refine codeAny_call_function hr.depth (inK _ _ lk) rfl Sc.co Sc.gen rfl (PySem.W.codeRec_of inK hcd) (hbd _ _ _ _ ?_)
  refine wpAny_newFunctionEnv_cells Sc.kind kinds fun env he s1 xx => ?_
  subst he
  refine ⟨noLim.keeps xx.toInCall.keep, codeAny_func ?_⟩
  have rv : Vals [V.ref f] [Value.ref f] := .cons rfl .nil
  have I : Inv (cxOf (L2.CX P w) P w K mg base N x (defScope st) g cdv A outer s H E) [] (L2.start N [.ref f]) H s1 := inv_start Sc hr.hd e0 rfl rv xx
  have C : CxG (cxOf (L2.CX P w) P w K mg base N x (defScope st) g cdv A outer s H E) (fun cls d _ H => E cls d H) (k + 1) :=
    ⟨takes_of rfl rfl rfl rfl, hg, hr.deeper _, passes_of rfl⟩
  have D := hb f m g cdv A outer s H E W hgm C hL
  have ok0 := start_ok (N := N) (ds := [.v (.ref f)]) al mm (.cons (.v _) .nil)
  have body : ts (b f m) ⟨fun ρ => R (.d .non) ρ.mm, R, fun _ => False, fun _ => False, fun x ρ => Z x ρ.mm⟩ (rho0 N [.v (.ref f)] μ) := by
    have q := hwf
    unfold defL at q
    rw [ts_out] at q
    exact q
  refine wpAny_mono (D.run [] s1 (L2.start N [.ref f]) H { nx := fun _ H' => Q .non H', rt := Q } I ⟨W, rho0 N [.v (.ref f)] μ, _, ok0, body, fun ρ' W' σ' H' h o l => ?_, fun d ρ' W' σ' y H' h o l rr => ?_, fun _ _ _ _ q => q.elim, fun _ _ _ _ q => q.elim, fun z ρ' W' σ' H' c dx h o l ex => ?_⟩) (fun fl s' hs => ?_) fun e s' hs => hs
  · exact hQ _ _ W' _ H' h ⟨o.al, o.en, .of .non, o.mm⟩
  · exact hQ _ _ W' _ H' h ⟨o.al, o.en, rr, o.mm⟩
  · exact hE _ _ W' _ _ _ h ⟨o.al, o.en, ex, o.mm⟩
  have fin : ∀ {σ' : L2.St} {H' : Hp} {v : V} {u : Value}, Inv (cxOf (L2.CX P w) P w K mg base N x (defScope st) g cdv A outer s H E) [] σ' H' s' → RelV v u → Q v H' → CE outer P w H s Q u s' :=
    fun {σ' H' v u} J rv q => ⟨v, H', J.os, J.bare, J.base, J.hok, rv, q⟩
  match fl, hs with
  | .ret u, ⟨v, σ', H', J, rv, q⟩ => exact fin J rv q
  | .next, ⟨σ', H', J, q⟩ => exact fin (v := V.non) (u := Value.none) J rfl q
  | .brk, ⟨_, _, _, q⟩ => exact False.elim q
  | .cont, ⟨_, _, _, q⟩ => exact False.elim q

/-! ### the lambda is made -/

section

variable {X : Cx} {pins : List (Addr × Obj)} {σ : L2.St} {H : Hp} {s : Shared}

/-- its code object is new, or found in the table -/
theorem lam_make3 {q : Str} {c P : Addr} {params : Arguments} {body : Expr} {scope : Scope} {pos : Pos} {ps : Array Value} {E : Value → Shared → Prop} {Q : Value → Shared → Prop} (I : Inv X pins σ H s) (TB : TabB X.base X.mg c P) (hcode : X.env.code = .ref c)
    (hq : q = X.env.qual ++ "<lambda>") (hP : H P = some (.tbl ps)) (ht : TriplesOk ps.toList) (ha : ∀ cv, codeAmong pos ps.toList = some cv → ∃ c, cv = .ref c ∧ H c = some (CodeO c q)) (hdef : defaultsOf params X.env = ([], [])) (hfree : ∀ y ∈ scope.names, y.2 = .free → ∃ c, X.env.cells.lookup y.1 = some c)
    (h1 : ∀ (f c' : Addr) (pm ctv : Value) (s' : Shared), codeAmong pos ps.toList = none → H c' = none → Inv X pins σ (upd (upd H P (.tbl (ps ++ #[rawInt pos.line, rawInt pos.col, .ref c']))) c' (CodeO c' q)) s' →
      s'.heap.get? f = some (PySem.W.kla_obj "<lambda>" q params body scope (cloFrom X.env.cells scope.names []) pm c' ctv) → H f = none → f ≠ c' → f ≠ P → f ∉ frs X.stack → Q (.ref f) s')
    (h2 : ∀ (f c' : Addr) (pm ctv : Value) (s' : Shared), codeAmong pos ps.toList = some (.ref c') → Inv X pins σ H s' →
      s'.heap.get? f = some (PySem.W.kla_obj "<lambda>" q params body scope (cloFrom X.env.cells scope.names []) pm c' ctv) → H f = none → f ∉ frs X.stack → H c' = some (CodeO c' q) → Q (.ref f) s') :
    wpAny (model X.prog X.w) X.A (eval (.Lambda params body scope pos) X.env) Q E s := by
  subst hq
  refine PySem.W.kla_eval hdef ?_
  have bP : s.heap.BuiltinsAt X.mg P := TB.bm.keeps I.bk
  have hP' : s.heap.get? P = some { cls := .none, data := .fields ps } := I.hok P _ hP
  have nofr : ∀ f, s.heap.objs.size ≤ f → f ∉ frs X.stack := fun f hf z => by
    rcases List.mem_cons.mp (I.stkSub _ z) with e | e
    · have h1 := I.lt
      rw [← e] at h1
      exact Nat.lt_irrefl _ (Nat.lt_of_lt_of_le h1 hf)
    · exact I.nofs hf e
  cases hc : codeAmong pos ps.toList with
  | none =>
    refine PySem.W.kla_makeFunction (mg := X.mg) (c := c) (P := P) (ps := ps) (closure_ok hfree) I.ok.glob (I.mod.glob.keeps I.bk) hcode (TB.code.keeps I.bk) hP' ht hc TB.gP bP fun c' ctv h' tk hx hge hlt hrec htb => ?_
    obtain ⟨c2, oc, vs, t, e2, hoc, hd, hv⟩ := hrec
    cases e2
    have hsz : s.heap.objs.size ≤ h'.objs.size := Nat.le_trans hge (Nat.le_of_lt hlt)
    have nC : H c' = none := I.hok.fresh hge
    have I1 := inv_table (t' := tk) (more := #[rawInt pos.line, rawInt pos.col, .ref c']) (h' := h'.push (PySem.W.kla_obj "<lambda>" (X.env.qual ++ "<lambda>") params body scope (cloFrom X.env.cells scope.names []) ((X.mg "__name__").getD .none) c' ctv)) I hP
      (fun b o hb e => Heap.get?_push_of_some _ (hx b o hb e)) (Heap.get?_push_of_some _ htb) hge ⟨oc, vs, t, Heap.get?_push_of_some _ hoc, hd, hv⟩
    exact h1 h'.objs.size c' ((X.mg "__name__").getD .none) ctv _ hc nC I1 (Heap.get?_push_size _ rfl) (I.hok.fresh hsz) (Nat.ne_of_gt hlt) (Nat.ne_of_gt (Nat.lt_of_lt_of_le (Heap.lt_size hP') hsz)) (nofr _ hsz)
  | some cv =>
    obtain ⟨c', e, hco⟩ := ha cv hc
    subst e
    refine PySem.W.kla_makeFunctionHit (mg := X.mg) (c := c) (P := P) (ps := ps) (closure_ok hfree) I.ok.glob (I.mod.glob.keeps I.bk) hcode (TB.code.keeps I.bk) hP' ht hc bP fun ctv h' tk hx hsz => ?_
    have I1 : Inv X pins σ H { s with heap := h'.push (PySem.W.kla_obj "<lambda>" (X.env.qual ++ "<lambda>") params body scope (cloFrom X.env.cells scope.names []) ((X.mg "__name__").getD .none) c' ctv), toks := tk } := I.kept fun b o e => Heap.get?_push_of_some _ (hx b o e)
    exact h2 h'.objs.size c' ((X.mg "__name__").getD .none) ctv _ hc I1 (Heap.get?_push_size _ rfl) (I.hok.fresh hsz) (nofr _ hsz) hco

end

/-- a table gets a further code object -/
theorem Ok.wtab {K : PySem.W.Frag} {G : Gx} {σ : L2.St} {ρ : Rho} {W : Wd} {H : Hp} {P c' : Addr} {q : Str} {ps : Array Value} {pos : Pos} (ok : Ok K G W ρ σ H) (hT : (P, q) ∈ lamTabs K) (hP : H P = some (.tbl ps)) (ht : TriplesOk ps.toList)
    (ha : ∀ (pos : Pos) (cv : Value), codeAmong pos ps.toList = some cv → ∃ c, cv = .ref c ∧ W.F c ∧ H c = some (CodeO c q)) (nc : H c' = none) :
    Go K G σ ρ W H ρ (W.add c') (upd (upd H P (.tbl (ps ++ #[rawInt pos.line, rawInt pos.col, .ref c']))) c' (CodeO c' q)) := by
  obtain ⟨wt, wu⟩ := ok.mm.tab P q hT
  have jP : W.J P := ok.al.t P q wt
  have nPc : P ≠ c' := ne_of_none hP nc
  have at_ : ∀ b, b ≠ P → b ≠ c' → upd (upd H P (.tbl (ps ++ #[rawInt pos.line, rawInt pos.col, .ref c']))) c' (CodeO c' q) b = H b := fun b h1 h2 => by rw [upd_ne h2, upd_ne h1]
  have sm : ∀ {b u}, H b = some u → b ≠ c' := fun {b u} e => ne_of_none e nc
  have l : Le W H (W.add c') (upd (upd H P (.tbl (ps ++ #[rawInt pos.line, rawInt pos.col, .ref c']))) c' (CodeO c' q)) := .add fun a h => by
    obtain ⟨o, e⟩ := ok.al.f a h
    exact at_ a (fun z => ok.al.d P jP (by rw [← z]; exact h)) (sm e)
  refine ok.grow ⟨l, fun a h => h.imp id fun e => .inl (by rw [e]; exact nc), fun _ h => .inl h, fun _ h => .inl h, fun a o e nj _ _ => ?_, fun a e => ?_⟩ ⟨fun a h => ?_, fun a h => ?_, fun a h z => ?_, fun a h => ?_, ok.al.nd, ok.al.t⟩ (ok.mm.keep l rfl fun a h => ?_)
  · rw [at_ a (fun z => nj (by rw [z]; exact jP)) (sm e)]; exact e
  · by_cases h1 : a = c'
    · rw [h1]; exact nc
    · by_cases h2 : a = P
      · rw [h2, upd_ne nPc, upd_same] at e; cases e
      · rw [at_ a h2 h1] at e; exact e
  · rcases h with h | h
    · obtain ⟨o, e⟩ := ok.al.f a h
      exact ⟨o, (l.k a h).trans e⟩
    · rw [h]; exact ⟨_, upd_same⟩
  · by_cases hb : a = P
    · subst hb
      have eL : (ps ++ #[rawInt pos.line, rawInt pos.col, .ref c']).toList = ps.toList ++ [rawInt pos.line, rawInt pos.col, .ref c'] := by simp
      refine .inl ⟨⟨q, wt⟩, fun q' hq' => ?_⟩
      obtain rfl := wu q' hq'
      refine ⟨_, by rw [upd_ne nPc, upd_same], by rw [eL]; exact PySem.TriplesOk_snoc _ _ _ _ ht, fun p' cv hcv => ?_⟩
      rw [eL] at hcv
      rcases among_app _ ht hcv with z | z
      · obtain ⟨c0, e1, e2, e3⟩ := ha p' cv z
        exact ⟨c0, e1, .inl e2, (l.k c0 e2).trans e3⟩
      · exact ⟨c', z, .inr rfl, upd_same⟩
    · obtain ⟨o, e⟩ := (ok.al.j a h).some
      exact (ok.al.j a h).le l (at_ a hb (sm e))
  · rcases z with z | z
    · exact ok.al.d a h z
    · obtain ⟨o, e⟩ := (ok.al.j a h).some
      rw [z, nc] at e; cases e
  · obtain ⟨a1, a2, o, e⟩ := ok.al.c a h
    exact ⟨fun z => z.elim a1 fun e' => (by rw [e', nc] at e; cases e), a2, o, (at_ a (fun z => a2 (by rw [z]; exact jP)) (sm e)).trans e⟩
  · obtain ⟨a1, a2, o, e⟩ := ok.al.c a h
    exact at_ a (fun z => a2 (by rw [z]; exact jP)) (sm e)

/-! ### x(lambda: body) -/

def hideOwn (sl : Sl) : Sl := sl.map fun o => match o with
  | some s => if s.isOwn then none else some s
  | none => none

@[simp] theorem hide_nil : hideOwn [] = [] := rfl

@[simp] theorem hide_d {d : D} {r : Sl} : hideOwn (some (.d d) :: r) = some (.d d) :: hideOwn r := rfl

@[simp] theorem hide_own {ds : List D} {r : Sl} : hideOwn (some (.own ds) :: r) = none :: hideOwn r := rfl

@[simp] theorem hide_odic {ds : List (Key × D)} {r : Sl} : hideOwn (some (.odic ds) :: r) = none :: hideOwn r := rfl

@[simp] theorem hide_ldic {ds : List (Key × D)} {r : Sl} : hideOwn (some (.ldic ds) :: r) = some (.ldic ds) :: hideOwn r := rfl

@[simp] theorem hide_none {r : Sl} : hideOwn (none :: r) = none :: hideOwn r := rfl

theorem hide_get {sl : Sl} {i : Nat} {d : S} (h : (hideOwn sl)[i]? = some (some d)) : sl[i]? = some (some d) ∧ d.isOwn = false := by
  unfold hideOwn at h
  rw [List.getElem?_map] at h
  cases e : sl[i]? with
  | none => rw [e] at h; cases h
  | some o =>
    rw [e] at h
    cases o with
    | none => cases h
    | some s =>
      cases hs : s.isOwn with
      | true =>
        have h : some (if s.isOwn = true then none else some s) = some (some d) := h
        rw [hs] at h; cases h
      | false =>
        have h : some (if s.isOwn = true then none else some s) = some (some d) := h
        rw [hs] at h
        cases h
        exact ⟨rfl, hs⟩

theorem Ok.hide {K : PySem.W.Frag} {G : Gx} {W : Wd} {ρ : Rho} {σ : L2.St} {H : Hp} (ok : Ok K G W ρ σ H) : Ok K G W ⟨hideOwn ρ.sl, ρ.mm⟩ σ H ∧ ∀ a, ¬ Ow ⟨hideOwn ρ.sl, ρ.mm⟩ σ a := by
  have no : ∀ a, ¬ Ow ⟨hideOwn ρ.sl, ρ.mm⟩ σ a := fun a ⟨i, d, h1, h2, _⟩ => by rw [(hide_get h1).2] at h2; cases h2
  refine ⟨⟨by rw [ok.len]; show _ = (hideOwn ρ.sl).length; unfold hideOwn; rw [List.length_map], fun i d h => ok.val i d (hide_get h).1, fun a h => absurd h (no a), fun i j d e a h1 h2 o1 _ _ _ => (by rw [(hide_get h1).2] at o1; cases o1), ok.al, ok.en, ok.mm⟩, no⟩

/-- what the lambda comes to -/
def lamM (e : EM S) (ρ : Sl) : M (Oc S) := (e (hideOwn ρ)).bind fun r => M.one r.1

def mLam (F : Addr → M (Oc S) → M (Oc S)) (e : EM S) : EM S := fun ρ => (M.any fun _ : Addr => True).bind fun fa => put (F fa (lamM e ρ)) ρ

section

variable {X : Cx} {G : Gx} {T : WX} {k j : Nat}

theorem qe_lam {x y : Str} {F : Addr → M (Oc S) → M (Oc S)} {params : Arguments} {body : Expr} {scope : Scope} {e : EM S} {p lpos pos : Pos} (C : CxG X T k) (hG : G.W.g = X.mg) (D : DfL X.prog X.w X.K X.mg X.base j x F) (hj : j + 2 ≤ k)
    (TB : TabsB X.K X.mg X.base) (hy : y ∈ lamDefs) (hc : ∃ c P, X.env.code = .ref c ∧ PySem.W.tabIn X.K y = some (c, P)) (hqual : y ++ ".<locals>." = X.env.qual)
    (hbody : ∀ (A : Around) (outer : List PySem.Env) (s : Shared) (H : Hp) (E : XK) (f c' : Addr), CxG (lamCx X A outer s H E scope f c') (fun cls d _ H => E cls d H) j → QE (lamCx X A outer s H E scope f c') G (fun cls d _ H => E cls d H) body e)
    (L : LamS X.env.scope scope) (hg : Gl X x := by rfl) (hdb : (x == ("__debug__" : Str)) = false := by decide) (hdef : defaultsOf params X.env = ([], []) := by rfl)
    (hbind : ∀ (q : Str) (cl : List (Str × Addr)) (pm cv ctv : Value), bindArgs (PySem.W.kla_fn "<lambda>" q params body scope cl pm cv ctv) ⟨[], []⟩ = pure [] := by intros; rfl) :
    QE X G T (.Call (.Name x p) [.Lambda params body scope lpos] [] pos) (mLam F e) := by
  obtain ⟨g, hm, hk, FL⟩ := D
  obtain ⟨c, P, hcode, htab⟩ := hc
  have tb := TB y c P hy htab
  have hT : (P, X.env.qual ++ "<lambda>") ∈ lamTabs X.K := by
    rw [← hqual]; exact mem_lamTabs hy htab
  refine ⟨fun pins s σ H Q I ⟨W, ρ, R, Z, ok, h, hR, hZ⟩ => ?_⟩
  have h : ∀ fa : Addr, (F fa (lamM e ρ.sl)).wp ρ.mm fun r μ => r.elim (fun s => R s ⟨ρ.sl, μ⟩) fun e => Z e ⟨ρ.sl, μ⟩ := fun fa => by
    have q : (put (F fa (lamM e ρ.sl)) ρ.sl).wp ρ.mm fun r μ => r.1.elim (fun a => R a ⟨r.2, μ⟩) fun e => Z e ⟨r.2, μ⟩ := h fa trivial
    rw [tw_put] at q
    exact q
  have jt := ok.al.j P (ok.al.t P _ (ok.mm.tab P _ hT).1)
  obtain ⟨ps, hP, ht, ha⟩ := jt.tab (ok.mm.tab P _ hT).1
  have hfree := L.has I.ok
  -- the call, from the state in which the lambda stands
  have go : ∀ (f c' : Addr) (pm ctv : Value) (s' : Shared) (W1 : Wd) (H1 : Hp), Inv X pins σ H1 s' → Go X.K G σ ρ W H ρ W1 H1 → s'.heap.get? f = some (PySem.W.kla_obj "<lambda>" (X.env.qual ++ "<lambda>") params body scope (cloFrom X.env.cells scope.names []) pm c' ctv) → H1 f = none → f ∉ frs X.stack →
      W1.F c' → H1 c' = some (CodeO c' (X.env.qual ++ "<lambda>")) → wpAny (model X.prog X.w) X.A (call (.ref g) [.ref f]) (EP X pins σ Q) X.xe s' := by
    intro f c' pm ctv s' W1 H1 I1 g1 hf hfn hfr hF hco
    have hL : LamG X.prog X.w X.K X.mg X.base X.stack f j s' H1 W1 (lamM e ρ.sl) := by
      refine ⟨⟨_, _, _, _, _, _, _, _, hf⟩, hfn, hfr, fun A' env' sz Hz W' μ R' Z' Q' E' hg' hr' e0 un st al mm hm' hQ' hE' => ?_⟩
      have of1 : sz.heap.get? f = some (PySem.W.kla_obj "<lambda>" (X.env.qual ++ "<lambda>") params body scope (cloFrom X.env.cells scope.names []) pm c' ctv) := un.keep f _ hf hfn hfr (by simp)
      have ez : Hz c' = some (CodeO c' (X.env.qual ++ "<lambda>")) := (st.le.k c' hF).trans hco
      obtain ⟨⟨oc, vs, t, hoc, hdc, hvc⟩, _, _⟩ := e0.hok c' _ ez
      obtain ⟨okz, noO⟩ := Ok.hide (g1.ok.grow st al mm).ok
      refine PySem.W.kla_callFunE hr'.depth of1 rfl L.co L.gen rfl ⟨c', oc, vs, t, rfl, hoc, hdc, hvc⟩ ?_
      rw [hbind]
      have noLim : sz.heap.NoLimit := e0.mod.nolimit.keeps fun b o q => (e0.bs b o q).1
      refine wpAny_pure (wpAny_newFunctionEnv (fun y hy => (L.own y hy).2) (fun y hy => absurd hy (by simp)) (fun h₁ hns hsb => ⟨noLim.fresh _ hsb, ?_⟩) L.kind)
      show codeAny _ _ (.expr body (lamEnv X scope sz.heap.objs.size f c')) _ _
      have kp : ∀ b o, sz.heap.get? b = some o → h₁.get? b = some o := fun b o e => hsb.extBut b o (Nat.ne_of_lt (Heap.lt_size e)) (Heap.get?_push_of_some _ e)
      have J : Inv (lamCx X A' (env' :: X.stack) sz Hz E' scope f c') [] σ Hz { sz with heap := h₁, toks := sz.toks + ([] : List (Str × Value)).length } :=
        lam_start2 I1 L e0 hr'.hd un hns kp
      have Cl : CxG (lamCx X A' (env' :: X.stack) sz Hz E' scope f c') (fun cls d _ H => E' cls d H) j := ⟨takes_of rfl rfl rfl rfl, hg', hr'.deeper _, passes_of rfl⟩
      refine PySem.W.kla_codeExpr (wpAny_mono ((hbody A' (env' :: X.stack) sz Hz E' f c' Cl).run [] _ σ Hz Q' J ⟨W', ⟨hideOwn ρ.sl, μ⟩, fun s ρ' => R' s ρ'.mm, fun x ρ' => Z' x ρ'.mm, okz, ?_, fun d ρ' W2 x H2 hr g2 rs => ?_, fun x ρ' W2 H2 c dx hz g2 ex => ?_⟩) (fun v s2 hq => ?_) fun e s2 hq => hq)
      · have q : (e (hideOwn ρ.sl)).wp μ fun r μ' => r.1.elim (fun s => R' s μ') fun e => Z' e μ' := hm'
        exact q
      · exact hQ' d ρ'.mm W2 x H2 hr ⟨g2.ok.al, g2.stp.mono fun x h => noO x h, rs, g2.ok.mm⟩
      · exact hE' x ρ'.mm W2 H2 c dx hz ⟨g2.ok.al, g2.stp.mono fun x h => noO x h, ex, g2.ok.mm⟩
      · obtain ⟨w', H', J', rv, q⟩ := hq
        exact ⟨w', H', J'.os, J'.bare, J'.base, J'.hok, rv, q⟩
    have rc := FL X.A X.stack s' H1 W1 ρ.mm f (lamM e ρ.sl) (fun s μ => R s ⟨ρ.sl, μ⟩) (fun e μ => Z e ⟨ρ.sl, μ⟩) Q (fun c dx H' => T c dx σ H') C.gd (C.rm.mono hj) I1.env0 hL g1.ok.al g1.ok.mm (g1.ok.en.le.g.trans hG) (h f)
      (fun d μ' W' x' H' hr rt => hR d ⟨ρ.sl, μ'⟩ W' x' H' hr (g1.trans (g1.ok.grow rt.stp rt.al rt.mm)) (rt.res.up g1.stp.up)) (fun x' μ' W' H' c dx hz rt => hZ x' ⟨ρ.sl, μ'⟩ W' H' c dx hz (g1.trans (g1.ok.grow rt.stp rt.al rt.mm)) rt.ex)
    refine wpAny_call (codeAny_mono rc fun r s2 hq => ?_)
    match r, hq with
    | .error e, hq => exact C.tk e s2 (XE.of_call (W := T) I1 (fun _ _ _ q => q) hq)
    | .ok (.ret u), hq => exact I1.after hq
  refine wpAny_Call_Name_kw (ld_glob I hg hm ?_ hdb)
  refine PySem.W.callWith_K (h₀ := X.base) I.ok.mod.kin hk ?_ (by rfl) (by rfl)
  show wpAny _ _ (spliced ((false, eval (.Lambda params body scope lpos) X.env) :: backTo pos (starEach [] X.env))) _ _ s
  refine Calls.spliced_cons (lam_make3 I tb hcode rfl hP ht (fun cv hcv => by obtain ⟨c0, e1, _, e3⟩ := ha lpos cv hcv; exact ⟨c0, e1, e3⟩) hdef hfree (fun f c' pm ctv s' hnone nc I1 hf hfn hfc hfP hfr => ?_) fun f c' pm ctv s' hsome I1 hf hfn hfr hco => ?_)
  · refine Calls.spliced_nil ⟨I1.kIn, ?_⟩
    have g1 := ok.wtab (pos := lpos) hT hP ht ha nc
    exact go f c' pm ctv s' _ _ I1 g1 hf (by rw [upd_ne hfc, upd_ne hfP]; exact hfn) hfr (.inr rfl) upd_same
  · refine Calls.spliced_nil ⟨I1.kIn, ?_⟩
    obtain ⟨c0, e1, e2, e3⟩ := ha lpos _ hsome
    cases e1
    exact go f c' pm ctv s' _ _ I1 (.refl ok) hf hfn hfr e2 hco

end

end DL







/-! ML19: equations of raise, try, lambdas; raw facts of exception classes. -/

namespace DL

open PySem PySem.Spec L2

variable {α β γ : Type}

/-! ### raise -/

section

variable {C f : Str} {w : EM S} {ρ : Sl} {t : List (Str × Str)} {xt : XTab} {N : Str} {n : Nat} {F : FM} {u : EM (List D)}

@[simp ↓] theorem m_raise0 : mRaise0 C ρ = ex ⟨C, []⟩ ρ := rfl

@[simp ↓] theorem m_raise1 : mRaise1 C f w ρ = bindES (w ρ) fun d ρ1 => ex ⟨C, [(f, d.frz)]⟩ ρ1 := rfl

@[simp ↓] theorem m_xf : mXf t f w ρ = bindE (w ρ) fun d ρ1 => put (xfM t f d.frz) ρ1 := rfl

@[simp ↓] theorem m_xis : mXis xt N w ρ = bindE (w ρ) fun d ρ1 => put (xisM xt N d.frz) ρ1 := rfl

@[simp ↓] theorem m_callH : mCallH n F u ρ = bindE (u ρ) fun ds ρ1 => ((put ((F ds).bind fun r => r.elim (fun s => val s) fun _ => M.bad) ρ1)).req (ds.length = n) := rfl

theorem xf_eq {fs : List (Str × D)} {d : D} (h : t.contains (C, f) = true) (e : fs.lookup f = some d) : xfM t f (.exc C fs) = val (.d d) := by
  show (if t.contains (C, f) = true then (match fs.lookup f with | some d => val (.d d) | none => M.bad) else M.bad) = _
  rw [if_pos h, e]

theorem xis_eq {fs : List (Str × D)} {b : Bool} (h : xt.look C N = some b) : xisM xt N (.exc C fs) = val (.d (.bl b)) := by
  show (match xt.look C N with | some b => val (.d (.bl b)) | none => M.bad) = _
  rw [h]

end

/-! ### try -/

section

variable {t : XTab} {ow : List Str} {l : List Hd} {ρ : Sl} {s : S} {x : Exn} {p : Prop} [Decidable p] {u : SM} {h : Hd} {a : α}

@[simp ↓] theorem m_try : mTry t ow u l ρ = tryM t ow l (u ρ) := rfl

@[simp ↓] theorem try_nx : tryM t ow l (nx ρ) = nx ρ := rfl

@[simp ↓] theorem try_bk : tryM t ow l (bk ρ) = bk ρ := rfl

@[simp ↓] theorem try_ct : tryM t ow l (ct ρ) = ct ρ := rfl

@[simp ↓] theorem try_rt : tryM t ow l (rt s) = rt s := rfl

@[simp ↓] theorem try_ex : tryM t ow l (ex x ρ) = mHs t ow x l ρ := rfl

@[simp ↓] theorem try_bind {m : M γ} {f : γ → MS} : tryM t ow l (m.bind f) = m.bind fun a => tryM t ow l (f a) := rfl

@[simp ↓] theorem try_req {m : MS} {q : Prop} : tryM t ow l (m.req q) = (tryM t ow l m).req q := rfl

@[simp ↓] theorem try_bad : tryM t ow l M.bad = M.bad := rfl

@[simp ↓] theorem try_ite {m n : MS} : tryM t ow l (if p then m else n) = if p then tryM t ow l m else tryM t ow l n := by split <;> rfl

@[simp ↓] theorem try_put {m : M (Oc α)} {k : α → Sl → MS} : tryM t ow l (bindES (put m ρ) k) = m.bind fun r => r.elim (fun a => tryM t ow l (k a ρ)) fun e => mHs t ow e l ρ := M.ext fun μ P => by
  unfold tryM bindES put
  simp only [wp_bind, wp_one]
  congr 1
  funext r μ1
  cases r <;> rfl

@[simp ↓] theorem out_put {m : M (Oc α)} {k : α → Sl → MS} : out (bindES (put m ρ) k) = m.bind fun r => r.elim (fun a => out (k a ρ)) fun e => exn e := M.ext fun μ P => by
  unfold out bindES put
  simp only [wp_bind, wp_one]
  congr 1
  funext r μ1
  cases r <;> rfl

@[simp ↓] theorem bN_elim {r : Oc α} {f : α → MS} {g : Exn → MS} {k : Sl → MS} : bindN (r.elim f g) k = r.elim (fun a => bindN (f a) k) fun e => bindN (g e) k := by cases r <;> rfl

@[simp ↓] theorem out_elim {r : Oc α} {f : α → MS} {g : Exn → MS} : out (r.elim f g) = r.elim (fun a => out (f a)) fun e => out (g e) := by cases r <;> rfl

@[simp ↓] theorem try_elim {r : Oc α} {f : α → MS} {g : Exn → MS} : tryM t ow l (r.elim f g) = r.elim (fun a => tryM t ow l (f a)) fun e => tryM t ow l (g e) := by cases r <;> rfl

@[simp ↓] theorem hs_nil : mHs t ow x [] ρ = ex x ρ := rfl

theorem hs_no {r : List Hd} (e : t.any x.cls h.cs = some false) : mHs t ow x (h :: r) ρ = mHs t ow x r ρ := by
  show (match t.any x.cls h.cs with | some true => _ | some false => _ | none => _) = _
  rw [e]

theorem hs_yes0 {r : List Hd} {cs : List Str} {v : SM} {s : S} (e : t.any x.cls cs = some true) (hv : v ρ = rt s) : mHs t ow x (⟨cs, none, v⟩ :: r) ρ = rt s := by
  show (match t.any x.cls cs with | some true => (v ρ).bind fun r => (match r.1 with | .ex _ => M.bad | f => M.one (f, r.2) : MS) | some false => _ | none => _) = _
  rw [e, hv]; rfl

theorem hs_yes {r : List Hd} {cs : List Str} {i : Nat} {v : SM} {s : S} (e : t.any x.cls cs = some true) (ho : ow.contains x.cls = true) (hv : v (ρ.set i (some (.d (.exc x.cls x.fs)))) = rt s) : mHs t ow x (⟨cs, some i, v⟩ :: r) ρ = rt s := by
  show (match t.any x.cls cs with | some true => (if ow.contains x.cls then (v (ρ.set i (some (.d (.exc x.cls x.fs))))).bind fun r => (match r.1 with | .rt s => M.one (.rt s, r.2) | _ => M.bad : MS) else M.bad) | some false => _ | none => _) = _
  rw [e, ho, hv]; rfl

end

/-- by whether a clause takes it -/
def xcase {α : Type} (o : Option Bool) (y n : M α) : M α := match o with
  | some true => y
  | some false => n
  | none => M.bad

@[simp] theorem xcase_y {y n : M α} : xcase (some true) y n = y := rfl

@[simp] theorem xcase_n {y n : M α} : xcase (some false) y n = n := rfl

@[simp ↓] theorem bN_xcase {o : Option Bool} {y n : MS} {k : Sl → MS} : bindN (xcase o y n) k = xcase o (bindN y k) (bindN n k) := by cases o with | none => rfl | some b => cases b <;> rfl

@[simp ↓] theorem out_xcase {o : Option Bool} {y n : MS} : out (xcase o y n) = xcase o (out y) (out n) := by cases o with | none => rfl | some b => cases b <;> rfl

def suite0 (m : MS) : MS := m.bind fun r => match r.1 with
  | .ex _ => M.bad
  | f => M.one (f, r.2)

def suite1 (m : MS) : MS := m.bind fun r => match r.1 with
  | .rt s => M.one (.rt s, r.2)
  | _ => M.bad

section

variable {ρ : Sl} {s : S} {p : Prop} [Decidable p] {x : Exn}

@[simp ↓] theorem suite0_nx : suite0 (nx ρ) = nx ρ := rfl

@[simp ↓] theorem suite0_rt : suite0 (rt s) = rt s := rfl

@[simp ↓] theorem suite0_bind {m : M γ} {f : γ → MS} : suite0 (m.bind f) = m.bind fun a => suite0 (f a) := rfl

@[simp ↓] theorem suite0_req {m : MS} {q : Prop} : suite0 (m.req q) = (suite0 m).req q := rfl

@[simp ↓] theorem suite0_bad : suite0 M.bad = M.bad := rfl

@[simp ↓] theorem suite0_ite {m n : MS} : suite0 (if p then m else n) = if p then suite0 m else suite0 n := by split <;> rfl

@[simp ↓] theorem suite1_rt : suite1 (rt s) = rt s := rfl

@[simp ↓] theorem suite1_bind {m : M γ} {f : γ → MS} : suite1 (m.bind f) = m.bind fun a => suite1 (f a) := rfl

@[simp ↓] theorem suite1_req {m : MS} {q : Prop} : suite1 (m.req q) = (suite1 m).req q := rfl

@[simp ↓] theorem suite1_bad : suite1 M.bad = M.bad := rfl

@[simp ↓] theorem suite1_ite {m n : MS} : suite1 (if p then m else n) = if p then suite1 m else suite1 n := by split <;> rfl

variable {t : XTab} {ow : List Str} {cs : List Str} {i : Nat} {v : SM} {r : List Hd}

@[simp ↓] theorem hs_cons0 : mHs t ow x (⟨cs, none, v⟩ :: r) ρ = xcase (t.any x.cls cs) (suite0 (v ρ)) (mHs t ow x r ρ) := by
  show (match t.any x.cls cs with | some true => suite0 (v ρ) | some false => mHs t ow x r ρ | none => M.bad) = _
  cases t.any x.cls cs with
  | none => rfl
  | some b => cases b <;> rfl

@[simp ↓] theorem hs_cons1 : mHs t ow x (⟨cs, some i, v⟩ :: r) ρ = xcase (t.any x.cls cs) (if ow.contains x.cls then suite1 (v (ρ.set i (some (.d (.exc x.cls x.fs))))) else M.bad) (mHs t ow x r ρ) := by
  show (match t.any x.cls cs with | some true => (if ow.contains x.cls then suite1 (v (ρ.set i (some (.d (.exc x.cls x.fs))))) else M.bad) | some false => mHs t ow x r ρ | none => M.bad) = _
  cases t.any x.cls cs with
  | none => rfl
  | some b => cases b <;> rfl

end

/-- a slot's value, whatever it is -/
theorem varM_any {s : S} {i : Nat} {ρ : Sl} : varM (some (some s)) i ρ = ok (.d s.frz) (if s.isOwn = true then ρ.set i (some (.d s.frz)) else ρ) := by cases s <;> rfl

/-! ### lambdas -/

section

variable {i : Nat} {f : Addr} {m : M (Oc S)} {ρ : Sl} {e : EM S} {F : Addr → M (Oc S) → M (Oc S)} {N : List Str} {b : Addr → M (Oc S) → SM}

@[simp ↓] theorem m_act : mAct i f m ρ = (put m ρ).req (ρ[i]? = some (some (.d (.v (.ref f))))) := rfl

@[simp ↓] theorem m_lam : mLam F e ρ = (M.any fun _ : Addr => True).bind fun fa => put (F fa (lamM e ρ)) ρ := rfl

@[simp ↓] theorem any_addr {k : M β} : ((M.any fun _ : Addr => True).bind fun _ => k) = k := M.ext fun μ P => propext ⟨fun q => q (0 : Addr) trivial, fun q _ _ => q⟩

def lamO (m : ME S) : M (Oc S) := m.bind fun r => M.one r.1

@[simp ↓] theorem lam_eq : lamM e ρ = lamO (e (hideOwn ρ)) := rfl

@[simp ↓] theorem lamO_ok {s : S} : lamO (ok s ρ) = val s := rfl

@[simp ↓] theorem lamO_er {x : Exn} : lamO (er x ρ) = exn x := rfl

@[simp ↓] theorem lamO_put {m : M (Oc S)} : lamO (put m ρ) = m := rfl

@[simp ↓] theorem lamO_bind {m : M γ} {f : γ → ME S} : lamO (m.bind f) = m.bind fun a => lamO (f a) := rfl

@[simp ↓] theorem lamO_req {m : ME S} {q : Prop} : lamO (m.req q) = (lamO m).req q := rfl

@[simp ↓] theorem lamO_bad : lamO M.bad = M.bad := rfl

@[simp ↓] theorem lamO_ite {p : Prop} [Decidable p] {m n : ME S} : lamO (if p then m else n) = if p then lamO m else lamO n := by split <;> rfl

@[simp ↓] theorem lamO_ask {f : Mem → ME S} : lamO (M.ask f) = M.ask fun μ => lamO (f μ) := rfl

@[simp ↓] theorem lamO_upd {g : Mem → Mem} {m : ME S} : lamO (M.upd g m) = M.upd g (lamO m) := rfl

@[simp ↓] theorem val_bind {s : S} {k : Oc S → M β} : (val s).bind k = k (.v s) := rfl

@[simp ↓] theorem exn_bind {x : Exn} {k : Oc S → M β} : (exn x).bind k = k (.x x) := rfl

end

/-! ### raw facts -/

/-- the def x, its code object and that one's table -/
def TabX (K : PySem.W.Frag) (mg : Str → Option Value) (x : Str) : Prop := ∃ f c P, mg x = some (.ref f) ∧ PySem.W.tabIn K x = some (c, P) ∧ ∀ fd oc od sl, K.lookup f = some ⟨oc, od, .func fd, sl⟩ → fd.code = .ref c

section

variable {K : PySem.W.Frag} {h : Heap} {mg : Str → Option Value} {C f N qual s p : Str} {st : Stmt} {Ca fI : Addr} {bmB : List Value} {newId : String} {od an : Option Addr} {sl : Array (Option Value)} {oc kV dc pm cd ct : Value}

/-- the __init__ of an exception class -/
structure XInit (s p f : Str) (st : Stmt) : Prop where
  sc : FnScope [s, p] [s, p] (defScope st)
  bd : ∃ p1 p2 p3 pos, defBody st = [.Assign [.Attribute (.Name s p1) f p2] (.Name p p3) pos]
  v0 : Vis (defScope st) s
  v1 : Vis (defScope st) p
  d0 : (s == ("__debug__" : Str)) = false
  d1 : (p == ("__debug__" : Str)) = false
  c0 : (s == ("__classdict__" : Str)) = false
  c1 : (p == ("__classdict__" : Str)) = false
  bi : ∀ (kV doc pm : Value) (an : Option Addr) (cdv ct : Value) (qual : Str) (us : List Value), us.length = 2 → bindArgs (PySem.W.fnOf "__init__" qual (defArgs st) (defBody st) (defScope st) .none kV doc pm an cdv ct) ⟨us, []⟩ = pure ([s, p].zip us)

theorem xk1_mk (X : K.In h) (G : h.Ns mainGlobals mg) (B : XBase bmB newId) (I : XInit s p f st) (z : PySem.W.nsIn K mainGlobals C = some (some (.ref Ca))) (q : PySem.W.excInitIn K Ca bmB newId = true) (hd : PySem.W.hasDictIn K Ca = true)
    (sa : PySem.W.findIn K (.ref Ca) "__setattr__" = some (some (.builtin "object.__setattr__"))) (p1 : PySem.W.subIn K (.ref Ca) (.type "BaseException") = some true) (p2 : PySem.W.typeIn K (.ref Ca) = some (.type "type")) (p3 : PySem.W.keepIn K (.ref Ca) = true)
    (ga : PySem.W.findIn K (.ref Ca) "__getattribute__" = some (some (.builtin "BaseException.__getattribute__"))) (gg : PySem.W.findIn K (.ref Ca) "__getattr__" = some none)
    (i : PySem.W.findIn K (.ref Ca) "__init__" = some (some (.ref fI))) (t : PySem.W.typeIn K (.ref fI) = some (.type "function")) (no : PySem.W.findIn K (.ref Ca) f = some none)
    (l : K.lookup fI = some ⟨oc, od, .func (PySem.W.fnOf "__init__" qual (defArgs st) (defBody st) (defScope st) .none kV dc pm an cd ct), sl⟩) (c : PySem.W.codeIn K cd qual = true) (k : PySem.W.keepIn K (.ref fI) = true) : XK1 K mg C f := by
  have F : Fun K "__init__" qual st fI _ := fun_mk (st := st) l c k
  have XC : XCls K Ca := ⟨⟨bmB, newId, B, q⟩, hd, sa, p1, p2, p3, ga, gg⟩
  obtain ⟨p1, p2', p3, pos, hb⟩ := I.bd
  exact ⟨Ca, fI, _, s, p, PySem.W.mg_of X G z, XC, i, t, F.binds (ps := [s, p]) (fun kV doc pm an cdv ct us hl => I.bi kV doc pm an cdv ct qual us hl), fun P w base => ok_xinit F I.sc hb XC no I.v0 I.v1 I.d0 I.d1 I.c0 I.c1⟩

theorem xins_mk (hd : PySem.W.hasDictIn K Ca = true) (ga : PySem.W.findIn K (.ref Ca) "__getattribute__" = some (some (.builtin "BaseException.__getattribute__"))) (gg : PySem.W.findIn K (.ref Ca) "__getattr__" = some none) (p1 : PySem.W.subIn K (.ref Ca) (.type "BaseException") = some true)
    (q1 : PySem.W.findIn K (.ref Ca) "__class__" = some (some (.builtin "object.__class__"))) (q2 : PySem.W.specialIn K (.builtin "object.__class__") "__get__" = some (some (.builtin "getset_descriptor.__get__")))
    (q3 : PySem.W.takesIn K (.builtin "object.__class__") = some true) (q4 : PySem.W.mroIn K Ca (.type "object") = some true) : XIns K Ca := ⟨hd, ga, gg, p1, q1, q2, q3, q4⟩

/-- a class's name -/
theorem nmc_own (X : K.In h) (G : h.Ns mainGlobals mg) (z : PySem.W.nsIn K mainGlobals C = some (some (.ref Ca))) : ∃ a, mg C = some (.ref a) := ⟨Ca, PySem.W.mg_of X G z⟩

/-- one row of a clause's table: an own class against an own class, a built-in one -/
theorem xrow_own {b : Bool} {Na : Addr} (X : K.In h) (G : h.Ns mainGlobals mg) (z : PySem.W.nsIn K mainGlobals C = some (some (.ref Ca))) (y : PySem.W.nsIn K mainGlobals N = some (some (.ref Na))) (e : PySem.W.subIn K (.ref Na) (.type "BaseException") = some true) (hd : PySem.W.hasDictIn K Na = true) (t : PySem.W.typeIn K (.ref Na) = some (.type "type"))
    (u : PySem.W.subIn K (.ref Ca) (.ref Na) = some b) : ∀ c n, CvOf mg C c → CvOf mg N n → PySem.W.exmOne K c n = some b := fun c n hc hn => by
  have e1 := hc.uniq (.inl (PySem.W.mg_of X G z))
  have e2 := hn.uniq (.inl (PySem.W.mg_of X G y))
  subst e1 e2
  exact PySem.W.exm_ref e hd t u

theorem nv_own {X : Cx} {x : Str} (h : ∃ a, X.mg x = some (.ref a)) (hg : Gl X x := by rfl) (hd : (x == ("__debug__" : Str)) = false := by decide) : ∃ c, NameV X x c := let ⟨a, e⟩ := h; ⟨.ref a, hg, hd, .inl e⟩

/-- one row of isinstance's table -/
theorem irow_own {b : Bool} {Na : Addr} (X : K.In h) (G : h.Ns mainGlobals mg) (z : PySem.W.nsIn K mainGlobals C = some (some (.ref Ca))) (I : XIns K Ca) (y : PySem.W.nsIn K mainGlobals N = some (some (.ref Na))) (u : PySem.W.kitOne K (.ref Ca) (.ref Na) = some b) :
    ∃ Ca, mg C = some (.ref Ca) ∧ XIns K Ca ∧ ∀ n, CvOf mg N n → PySem.W.kitOne K (.ref Ca) n = some b :=
  ⟨Ca, PySem.W.mg_of X G z, I, fun n hn => by
    have e2 := hn.uniq (.inl (PySem.W.mg_of X G y))
    subst e2
    exact u⟩

theorem irow_bt {b : Bool} {T : String} (X : K.In h) (G : h.Ns mainGlobals mg) (z : PySem.W.nsIn K mainGlobals C = some (some (.ref Ca))) (I : XIns K Ca) (y : PySem.W.nsIn K mainGlobals N = some none) (v : bootBuiltins N = some (.type T)) (u : PySem.W.kitOne K (.ref Ca) (.type T) = some b) :
    ∃ Ca, mg C = some (.ref Ca) ∧ XIns K Ca ∧ ∀ n, CvOf mg N n → PySem.W.kitOne K (.ref Ca) n = some b :=
  ⟨Ca, PySem.W.mg_of X G z, I, fun n hn => by
    have e2 := hn.uniq (.inr ⟨PySem.W.mg_none_of X G y, v⟩)
    subst e2
    exact u⟩

theorem frow_mk (X : K.In h) (G : h.Ns mainGlobals mg) (z : PySem.W.nsIn K mainGlobals C = some (some (.ref Ca))) (I : XIns K Ca) (n : PySem.W.findIn K (.ref Ca) f = some none) : ∃ Ca, mg C = some (.ref Ca) ∧ XIns K Ca ∧ PySem.W.findIn K (.ref Ca) f = some none := ⟨Ca, PySem.W.mg_of X G z, I, n⟩

/-- the tables of the def x's lambdas -/
theorem tabx_mk {x : Str} {f c P : Addr} {fd : FuncData} {vs : Array Value} {oc2 : Value} {od2 : Option Addr} {sl2 : Array (Option Value)} (X : K.In h) (G : h.Ns mainGlobals mg) (z : PySem.W.nsIn K mainGlobals x = some (some (.ref f))) (l : K.lookup f = some ⟨oc, od, .func fd, sl⟩) (hc : fd.code = .ref c)
    (m : K.lookup c = some ⟨oc2, od2, .fields vs, sl2⟩) (v : (vs[11]? : Option Value) = some (.ref P)) : TabX K mg x := by
  refine ⟨f, c, P, PySem.W.mg_of X G z, ?_, fun fd' oc' od' sl' e => by rw [l] at e; cases e; exact hc⟩
  unfold PySem.W.tabIn
  simp only [z, l, hc, m, v]

end

/-! ### a def that makes lambdas -/

section

variable {P : Program} {w : World} {K : PySem.W.Frag} {mg : Str → Option Value} {base : Heap}

theorem ok_defM {x : Str} {st : Stmt} {f : Addr} {fd : FuncData} {N ps : List Str} {k : Nat} {wf : WF} {wb : WS} (F : Fun K x x st f fd) (hm : mg x = some (.ref f)) (TX : TabX K mg x) (Sc : FnScope N ps (defScope st))
    (hw : ∀ Z ds μ R, ds.length = ps.length → wf Z ds μ R → wb ⟨fun ρ => R (.d .non) ρ.mm, R, fun _ => False, fun _ => False, fun x ρ => Z x ρ.mm⟩ (rho0 N ds μ))
    (hb : ∀ (c Pt : Addr) (A : Around) (outer : List PySem.Env) (s : Shared) (H : Hp) (E : XK) (W : Wd), PySem.W.tabIn K x = some (c, Pt) → W.g = mg → CxG (cxOf (L2.CX P w) P w K mg base N x (defScope st) f (.ref c) A outer s H E) (fun cls d _ H => E cls d H) k →
      DSs (cxOf (L2.CX P w) P w K mg base N x (defScope st) f (.ref c) A outer s H E) ⟨W, H⟩ (fun cls d _ H => E cls d H) (defBody st) wb) :
    FnG P w K mg base (k + 1) f fd ps wf := by
  obtain ⟨f', c, Pt, hm', ht, hcode⟩ := TX
  rw [hm] at hm'
  cases hm'
  intro A outer s H args us vs ds W μ R Z Q E hg hr e0 hbd r hlen al mm hgm da hwf hQ hE
  obtain ⟨oc, od, kV, doc, pm, an, cdv, ct, osl, rfl, lk, hcd⟩ := F.ex
  obtain rfl : cdv = .ref c := hcode _ _ _ _ lk
  have hl : vs.length = ps.length := by rw [← da.length]; exact hlen
  have inK : K.In s.heap := e0.mod.kin.keeps fun b o q => (e0.bs b o q).1
  have noLim : s.heap.NoLimit := e0.mod.nolimit.keeps fun b o q => (e0.bs b o q).1
  have kinds : ∀ y ∈ ps.zip us, (defScope st).names.lookup y.1 = some .local ∨ ((defScope st).names.lookup y.1 = some .cell ∧ ((cellsFrom (s.heap.objs.size + 1) (defScope st).names []).lookup y.1).isSome = true) := fun ⟨n, v⟩ hy =>
    (Sc.par n (List.of_mem_zip hy).1).imp id fun q => ⟨q, PySem.W.cellsFrom_some _ _ _ (.inl q)⟩
  refine codeAny_call_function hr.depth (inK _ _ lk) rfl Sc.co Sc.gen rfl (PySem.W.codeRec_of inK hcd) (hbd _ _ _ _ ?_)
  refine wpAny_newFunctionEnv_cells Sc.kind kinds fun env he s1 xx => ?_
  subst he
  refine ⟨noLim.keeps xx.toInCall.keep, codeAny_func ?_⟩
  have I : Inv (cxOf (L2.CX P w) P w K mg base N x (defScope st) f (.ref c) A outer s H E) [] (L2.start N vs) H s1 := inv_start Sc hr.hd e0 hl r xx
  have C : CxG (cxOf (L2.CX P w) P w K mg base N x (defScope st) f (.ref c) A outer s H E) (fun cls d _ H => E cls d H) k :=
    ⟨takes_of rfl rfl rfl rfl, hg, hr.deeper _, passes_of rfl⟩
  have D := hb c Pt A outer s H E W ht hgm C
  have body := hw Z ds μ R hlen hwf
  have ok0 := start_ok (N := N) al mm da
  refine wpAny_mono (D.run [] s1 (L2.start N vs) H { nx := fun _ H' => Q .non H', rt := Q } I ⟨W, rho0 N ds μ, _, ok0, body, fun ρ' W' σ' H' h o l => ?_, fun d ρ' W' σ' y H' h o l rr => ?_, fun _ _ _ _ q => q.elim, fun _ _ _ _ q => q.elim, fun z ρ' W' σ' H' c dx h o l ex => ?_⟩) (fun fl s' hs => ?_) fun e s' hs => hs
  · exact hQ _ _ W' _ H' h ⟨o.al, o.en, .of .non, o.mm⟩
  · exact hQ _ _ W' _ H' h ⟨o.al, o.en, rr, o.mm⟩
  · exact hE _ _ W' _ _ _ h ⟨o.al, o.en, ex, o.mm⟩
  have fin : ∀ {σ' : L2.St} {H' : Hp} {v : V} {u : Value}, Inv (cxOf (L2.CX P w) P w K mg base N x (defScope st) f (.ref c) A outer s H E) [] σ' H' s' → RelV v u → Q v H' → CE outer P w H s Q u s' :=
    fun {σ' H' v u} J rv q => ⟨v, H', J.os, J.bare, J.base, J.hok, rv, q⟩
  match fl, hs with
  | .ret u, ⟨v, σ', H', J, rv, q⟩ => exact fin J rv q
  | .next, ⟨σ', H', J, q⟩ => exact fin (v := V.non) (u := Value.none) J rfl q
  | .brk, ⟨_, _, _, q⟩ => exact False.elim q
  | .cont, ⟨_, _, _, q⟩ => exact False.elim q

theorem df_qM {x : Str} {st : Stmt} {N ps : List Str} {k : Nat} {b : SM} {f : FM} (r : Raw K mg x st) (TX : TabX K mg x) (Sc : FnScope N ps (defScope st))
    (hbi : ∀ (kV doc pm : Value) (an : Option Addr) (cdv ct : Value) (us : List Value), us.length = ps.length → bindArgs (PySem.W.fnOf x x (defArgs st) (defBody st) (defScope st) .none kV doc pm an cdv ct) ⟨us, []⟩ = pure (ps.zip us))
    (hf : ∀ ds, ds.length = ps.length → (defM b N ds).le (f ds))
    (hb : ∀ (f c Pt : Addr) (A : Around) (outer : List PySem.Env) (s : Shared) (H : Hp) (E : XK) (W : Wd), PySem.W.tabIn K x = some (c, Pt) → W.g = mg → CxG (cxOf (L2.CX P w) P w K mg base N x (defScope st) f (.ref c) A outer s H E) (fun cls d _ H => E cls d H) k →
      QSs (cxOf (L2.CX P w) P w K mg base N x (defScope st) f (.ref c) A outer s H E) ⟨W, H⟩ (fun cls d _ H => E cls d H) (defBody st) b) : Df P w K mg base (k + 1) x st ps (tf f) := by
  obtain ⟨fa, fd, h1, F⟩ := r
  refine ⟨fa, fd, h1, F, F.binds hbi, ok_defM F h1 TX Sc (fun Z ds μ R hl h => ?_) fun c Pt => hb fa c Pt⟩
  have q := hf ds hl μ _ h
  unfold defM at q
  rw [ts_out] at q
  exact q

end

/-! ### the name of a dict, read and locked -/

def mVarL (i : Nat) : EM S := fun ρ => match ρ[i]? with
  | some (some (.odic kvs)) => ok (.d (.dic kvs)) (ρ.set i (some (.ldic kvs)))
  | _ => mVar i ρ

def varLM (o : Option (Option S)) (i : Nat) (ρ : Sl) : ME S := match o with
  | some (some (.odic kvs)) => ok (.d (.dic kvs)) (ρ.set i (some (.ldic kvs)))
  | _ => varM o i ρ

@[simp ↓] theorem m_varL {i : Nat} {ρ : Sl} : mVarL i ρ = varLM ρ[i]? i ρ := by
  unfold mVarL varLM
  rw [m_var]

@[simp ↓] theorem varLM_odic {i : Nat} {ρ : Sl} {d : List (Key × D)} : varLM (some (some (.odic d))) i ρ = ok (.d (.dic d)) (ρ.set i (some (.ldic d))) := rfl

@[simp ↓] theorem varLM_ldic {i : Nat} {ρ : Sl} {d : List (Key × D)} : varLM (some (some (.ldic d))) i ρ = ok (.d (.dic d)) ρ := rfl

@[simp ↓] theorem varLM_d {i : Nat} {ρ : Sl} {d : D} : varLM (some (some (.d d))) i ρ = ok (.d d) ρ := rfl

end DL






/-! ### == of two empty dicts, beside the data's -/

namespace DL

open PySem PySem.Spec L2

/-! ### what a clause tells of the exception's attribute -/

/-! ### a dict display of one text and one int -/

section

variable {X : Cx} {G : Gx} {T : WX} {pos : Pos}

def wDicS (k : Str) (v : Int) : WE := fun _ ρ R => R (.odic [(.inr k, .int v)]) ρ

theorem de_dicS {k : Str} {v : Int} {ek ev : Expr} (hk : PE X ek fun _ H Q => Q (.str k) H) (hv : PE X ev fun _ H Q => Q (.int v) H) : DE X G T (.Dict [some ek] [ev] pos) (wDicS k v) :=
  pe_weak (pe_disp (pps_cons hk hv pps_nil) (by rfl) (by rfl) (by simp) (by simp)) fun σ H Q ⟨W, ρ, R, Z, ok, h, hR, hZ⟩ q hq => by
    refine ⟨upd_same, [(.inr k, .int v)], rfl, by simp, ?_⟩
    have e : upd (upd H q (.dK [])) q (.dK (mergeK [] [(.inr k, .int v)])) = upd H q (.dK [(.inr k, V.int v)]) := by
      funext a
      by_cases z : a = q
      · subst z; rw [upd_same, upd_same]; rfl
      · rw [upd_ne z, upd_ne z, upd_ne z]
    rw [e]
    exact hR _ ρ W _ _ h (.new ok hq) ⟨⟨q, _, rfl, upd_same, .cons (.int v) .nil⟩, fun _ q' e => by
      cases e
      refine ⟨fun z => ?_, fun z => ?_, fun z => ?_, hq⟩
      · obtain ⟨o, e⟩ := ok.al.f q z; rw [hq] at e; cases e
      · obtain ⟨u, e⟩ := (ok.al.j q z).some; rw [hq] at e; cases e
      · obtain ⟨_, _, o, e⟩ := ok.al.c q z; rw [hq] at e; cases e⟩

def mDicS (k : Str) (v : Int) : EM S := fun ρ => ok (.odic [(.inr k, .int v)]) ρ

theorem qe_dicS {k : Str} {v : Int} {ek ev : Expr} (hk : PE X ek fun _ H Q => Q (.str k) H) (hv : PE X ev fun _ H Q => Q (.int v) H) : QE X G T (.Dict [some ek] [ev] pos) (mDicS k v) := by
  unfold QE
  exact de_mono (de_dicS hk hv) fun Z ρ R h => h

@[simp ↓] theorem m_dicS {k : Str} {v : Int} {ρ : Sl} : mDicS k v ρ = ok (.odic [(.inr k, .int v)]) ρ := rfl

end

/-! ### sorted(set(t)), t a tuple of ints -/

def rSetT (K : PySem.W.Frag) (w : World) : List V → Hp → VK → Prop := fun xs H Q => ∃ (a : Addr) (ns : List Int), xs = [.ref a] ∧ SqT K H a (ns.map V.int) ∧ ns.length + 1 < scanBound ∧
  ∀ (p : Addr) (c : Nat), H p = none → c ≤ ns.length → Q (.ref p) (upd H p (SetO w p (fun j => decide (j ∈ ns)) c))

theorem cr_setT {X : Cx} (hc : X.calm = true) : CallR X (.type "set") (rSetT X.K X.w) := by
  intro pins s σ H xs us Q I r ⟨a, ns, e, hs, hb, q⟩
  subst e
  rw [Vals.ref1 r]
  obtain ⟨its, rv, pt, hz⟩ := I.tuple hs
  refine call_set_tupI ns (I.ok.hd hc) (show s.heap.IsTuple a its.toArray from pt) (ints_of_vals rv) hb fun g tk c R hcn old => ?_
  have hn : H s.heap.objs.size = none := I.hok.fresh (Nat.le_refl _)
  exact ⟨.ref _, _, I.laid old (Nat.le_refl _) (setO_new R), rfl, q _ c hn hcn⟩

def fSortedSetT (ds : List D) (R : S → Prop) : Prop := ∃ ns : List Int, ds = [.tup (ns.map .int)] ∧ ns.length < 4095 ∧ ∀ ns' : List Int, ns'.Pairwise (· < ·) → (∀ k, k ∈ ns' ↔ k ∈ ns) → R (.own (ns'.map .int))

theorem tup_ints {K : PySem.W.Frag} {W : Wd} {H : Hp} {ds : List D} {xs : List V} {ns : List Int} (h : DnA K W H ds xs) (e : ds = [.tup (ns.map .int)]) : ∃ a, xs = [.ref a] ∧ SqT K H a (ns.map V.int) := by
  subst e
  match h with
  | .cons (.tup h1 h2) .nil => rw [h2.map_int] at h1; exact ⟨_, rfl, h1.sq⟩

theorem fSortedSetT_mono {d : List D} {R R' : S → Prop} (h : ∀ a, R a → R' a) (f : fSortedSetT d R) : fSortedSetT d R' := by
  obtain ⟨ns, e, f1, f2⟩ := f
  exact ⟨ns, e, f1, fun n a b => h _ (f2 n a b)⟩

section

variable {X : Cx} {G : Gx} {T : WX} {e : Expr} {pos p : Pos}

theorem de_sortedSetT {x y : Str} {p2 pos2 : Pos} {u : WA} (hc : X.calm = true) (hg : Gl X x) (hm : X.mg x = none) (hv : bootBuiltins x = some (.builtin "sorted")) (hg2 : Gl X y) (hm2 : X.mg y = none) (hv2 : bootBuiltins y = some (.type "set")) (ha : DA X G T [e] u)
    (hn : x ≠ "__name__" := by decide) (hdb : (x == ("__debug__" : Str)) = false := by decide) (hn2 : y ≠ "__name__" := by decide) (hdb2 : (y == ("__debug__" : Str)) = false := by decide)
    (he : starEach [.Call (.Name y p2) [e] [] pos2] X.env = (false, eval (.Call (.Name y p2) [e] [] pos2) X.env) :: starEach [] X.env := by rfl) (hpl : (backTo pos (starEach [] X.env)).any (·.1) = false := by rfl)
    (he2 : starEach [e] X.env = (false, eval e X.env) :: starEach [] X.env := by rfl) (hpl2 : (backTo pos2 (starEach [] X.env)).any (·.1) = false := by rfl) :
    DE X G T (.Call (.Name x p) [.Call (.Name y p2) [e] [] pos2] [] pos) (wCallB fSortedSetT u) :=
  pe_weak (pe_callB (cr_sortedSetL hc) hg hm hv (pa_cons (pe_callTy (cr_setT hc) hg2 hm2 hv2 ha hn2 hdb2 he2 hpl2) pa_nil he) hn hdb he hpl) fun σ H Q ⟨W, ρ, R, Z, ok, h, hR, hZ⟩ => by
    refine ⟨W, ρ, _, Z, ok, h, fun ds ρ1 W1 xs H1 ⟨ns, e, f1, f2⟩ g d => ?_, hZ⟩
    obtain ⟨a, rfl, s⟩ := tup_ints d e
    refine ⟨a, ns, rfl, s, by have : scanBound = scanBound := rfl; unfold scanBound; omega, fun q c hq hcn => ?_⟩
    have g1 := Go.new (o := SetO X.w q (fun j => decide (j ∈ ns)) c) g.ok hq
    refine ⟨q, _, c, rfl, upd_same, by omega, fun ns' q' s1 s2 s3 hq' => ?_⟩
    refine hR _ _ _ _ _ (f2 ns' s1 fun k => by rw [s2]; simp) ((g.trans g1).trans (Go.new g1.ok hq')) (res_own g1.ok hq' ?_ (DnA.of_int ns'))
    exact g.stp.up q' (g1.stp.up q' hq')

theorem qe_sortedSetT {x y : Str} {p2 pos2 : Pos} {u : EM (List D)} (hc : X.calm = true) (hg : Gl X x) (hm : X.mg x = none) (hv : bootBuiltins x = some (.builtin "sorted")) (hg2 : Gl X y) (hm2 : X.mg y = none) (hv2 : bootBuiltins y = some (.type "set")) (ha : QA X G T [e] u)
    (hn : x ≠ "__name__" := by decide) (hdb : (x == ("__debug__" : Str)) = false := by decide) (hn2 : y ≠ "__name__" := by decide) (hdb2 : (y == ("__debug__" : Str)) = false := by decide)
    (he : starEach [.Call (.Name y p2) [e] [] pos2] X.env = (false, eval (.Call (.Name y p2) [e] [] pos2) X.env) :: starEach [] X.env := by rfl) (hpl : (backTo pos (starEach [] X.env)).any (·.1) = false := by rfl)
    (he2 : starEach [e] X.env = (false, eval e X.env) :: starEach [] X.env := by rfl) (hpl2 : (backTo pos2 (starEach [] X.env)).any (·.1) = false := by rfl) :
    QE X G T (.Call (.Name x p) [.Call (.Name y p2) [e] [] pos2] [] pos) (mCallB fSortedSetT u) := by
  unfold QE; rw [tw_callB]
  refine de_mono (de_sortedSetT hc hg hm hv hg2 hm2 hv2 ha hn hdb hn2 hdb2 he hpl he2 hpl2) fun Z ρ R h => ?_
  have e : mcA fSortedSetT = fSortedSetT := by
    funext d R
    exact mcl_mono fun _ _ h q => fSortedSetT_mono h q
  rw [e] at h
  exact h

theorem l_sortedSetT {ns : List Int} : M.lift (fSortedSetT [.tup (ns.map .int)]) = (M.one (.own ((usort ns).map .int))).req (ns.length < 4095) := M.ext fun μ P => by
  rw [wp_lift, wp_req, wp_one]
  refine propext ⟨fun ⟨R, ⟨ms, e, h1, h2⟩, i⟩ => ?_, fun ⟨h1, h⟩ => ⟨fun s => s = .own ((usort ns).map .int), ⟨ns, rfl, h1, fun ns' p s => by rw [sorted_uniq p (usort_sorted ns) fun k => (s k).trans usort_mem.symm]⟩, fun s e => by rw [e]; exact h⟩⟩
  have e : ns = ms := int_inj (by injection e with e _; injection e)
  subst e
  exact ⟨h1, i _ (h2 _ (usort_sorted ns) fun k => usort_mem)⟩

end

end DL







/-! DL33: xs.count(True), xs.index(True) of an own list of bools. -/

namespace DL

open PySem PySem.Spec L2 PyProof.Rows

section

variable {X : Cx} {G : Gx} {T : WX} {p apos cpos q1 : Pos} {kk : Nat}

def boolsOf : List D → Option (List Bool)
  | [] => some []
  | .bl b :: ds => (boolsOf ds).map (b :: ·)
  | _ :: _ => none

def boolsM {β : Type} (o : Option (Option S)) (f : List Bool → M β) : M β := match o with
  | some (some (.own ds)) => match boolsOf ds with
    | some bs => f bs
    | none => M.bad
  | _ => M.bad

@[simp] theorem boolsM_nil {β : Type} {f : List Bool → M β} : boolsM (some (some (.own []))) f = f [] := rfl

@[simp] theorem boolsM_3 {β : Type} {a b c : Bool} {f : List Bool → M β} : boolsM (some (some (.own [.bl a, .bl b, .bl c]))) f = f [a, b, c] := rfl

@[simp] theorem boolsM_2 {β : Type} {a b : Bool} {f : List Bool → M β} : boolsM (some (some (.own [.bl a, .bl b]))) f = f [a, b] := rfl

@[simp] theorem boolsM_4 {β : Type} {a b c d : Bool} {f : List Bool → M β} : boolsM (some (some (.own [.bl a, .bl b, .bl c, .bl d]))) f = f [a, b, c, d] := rfl

@[simp] theorem boolsM_5 {β : Type} {a b c d e : Bool} {f : List Bool → M β} : boolsM (some (some (.own [.bl a, .bl b, .bl c, .bl d, .bl e]))) f = f [a, b, c, d, e] := rfl

def mCntT (i : Nat) : EM S := fun ρ => boolsM ρ[i]? fun bs => ok (.d (.int (bs.count true : Nat))) ρ

def mIdxT (i : Nat) : EM S := fun ρ => boolsM ρ[i]? fun bs => (ok (.d (.int (bs.idxOf true : Nat))) ρ).req (true ∈ bs)

@[simp ↓] theorem m_cntT {i : Nat} {ρ : Sl} : mCntT i ρ = boolsM ρ[i]? fun bs => ok (.d (.int (bs.count true : Nat))) ρ := rfl

@[simp ↓] theorem m_idxT {i : Nat} {ρ : Sl} : mIdxT i ρ = boolsM ρ[i]? fun bs => (ok (.d (.int (bs.idxOf true : Nat))) ρ).req (true ∈ bs) := rfl

end

/-! ### the repr of a dict whose values are ints -/

def keyPy : Key → PyData
  | .inl i => .int i
  | .inr x => .str x

def pyKs (ks : List (Key × Int)) : List (PyData × PyData) := ks.map fun p => (keyPy p.1, .int p.2)

theorem ks_inj : ∀ {ks js : List (Key × Int)}, (ks.map fun p : Key × Int => (p.1, D.int p.2)) = (js.map fun p => (p.1, D.int p.2)) → ks = js
  | [], [], _ => rfl
  | [], _ :: _, h => by cases h
  | _ :: _, [], h => by cases h
  | a :: l, b :: m, h => by
    rw [List.map_cons, List.map_cons] at h
    injection h with e1 e2
    injection e1 with e3 e4
    injection e4 with e4
    rw [ks_inj e2, Prod.ext e3 e4]

theorem reads_ks {P : Program} {w : World} {h : Heap} : ∀ {ks : List (Key × Int)} {es : List DictEntry} {vs : List (Key × Value)}, KV (ks.map fun p => (p.1, V.int p.2)) vs → Pairs (mixKind P w) es vs →
    ReadsAll h (es.map (·.key)) ((pyKs ks).map (·.1)) [] ∧ ReadsAll h (es.map (·.val)) ((pyKs ks).map (·.2)) []
  | [], _, _, .nil, .nil => ⟨.nil, .nil⟩
  | p :: ks, _, _, .cons r t, .cons hk hv ht => by
    obtain ⟨h1, h2⟩ := reads_ks (h := h) t ht
    obtain ⟨e1, e2⟩ := r
    obtain ⟨tk, e2⟩ : ∃ tk, _ = Value.int p.2 tk := e2
    refine ⟨?_, ?_⟩
    · rcases keyIs_shape hk with ⟨j, tj, a, b⟩ | ⟨x, tj, a, b⟩
      · have e3 : p.1 = .inl j := e1.trans a
        have q1 : Reads h (Value.int j tj) (keyPy p.1) [] := by rw [e3]; exact .int _ _
        rw [← b] at q1
        exact ReadsAll.cons q1 h1
      · have e3 : p.1 = .inr x := e1.trans a
        have q1 : Reads h (Value.str x tj) (keyPy p.1) [] := by rw [e3]; exact .str _ _
        rw [← b] at q1
        exact ReadsAll.cons q1 h1
    · have q1 : Reads h (Value.int p.2 tk) (.int p.2) [] := .int _ _
      rw [← e2, ← hv] at q1
      exact ReadsAll.cons q1 h2

def okD (ks : List (Key × Int)) : Prop := (PyData.dict (pyKs ks)).showable = true ∧ (PyData.dict (pyKs ks)).depth ≤ 60 ∧ (PyData.dict (pyKs ks)).shown.length ≤ sizeLine

def rReprX (K : PySem.W.Frag) : List V → Hp → VK → Prop := fun xs H Q => rRepr K xs H Q ∨ ∃ (a : Addr) (ks : List (Key × Int)), xs = [.ref a] ∧ Rd H a (.dK (ks.map fun p => (p.1, V.int p.2))) ∧ okD ks ∧ Q (.str (PyData.dict (pyKs ks)).shown) H

theorem cr_reprX {X : Cx} (hg : X.A.guards = some []) (hu : X.A.units + 64 < cLine) : CallR X (.builtin "repr") (rReprX X.K) := by
  intro pins s σ H xs us Q I r h
  rcases h with h | ⟨a, ks, e, hd, ⟨h1, h2, h3⟩, q⟩
  · exact cr_repr hg hu pins s σ H xs us Q I r h
  · subst e
    rw [Vals.ref1 r]
    obtain ⟨_, la, vs, kv, o, es, ep, ho, hex, hdt, _, hp, _⟩ := dk_rd I.hok hd
    obtain ⟨r1, r2⟩ := reads_ks (h := s.heap) kv hp
    have rd : Reads s.heap (.ref a) (.dict (pyKs ks)) (a :: [] ++ []) := .dict ho hex.1 hdt r1 r2
    exact PySem.repr_of_reads' rd h1 (fun _ z => by
      have z : sysModules = a := by simpa using z
      rw [z] at la; simp at la) hg (by omega) (fun _ _ e => e) (fun h' u tk k => ⟨.str _, H, I.kept k, ⟨u, rfl⟩, q⟩) h3

def fReprX (ds : List D) (R : S → Prop) : Prop := fRepr ds R ∨ ∃ ks : List (Key × Int), ds = [.dic (ks.map fun p => (p.1, .int p.2))] ∧ okD ks ∧ R (.d (.str (PyData.dict (pyKs ks)).shown))

theorem dnk_ints {K : PySem.W.Frag} {W : Wd} {H : Hp} : ∀ {ks : List (Key × Int)} {vs : List (Key × V)}, DnK K W H (ks.map fun p => (p.1, .int p.2)) vs → vs = ks.map fun p => (p.1, V.int p.2)
  | [], _, .nil => rfl
  | p :: ks, _, .cons h t => by cases h; rw [dnk_ints t]; rfl

theorem cd_reprX {K : PySem.W.Frag} : CaD K (rReprX K) fReprX := by
  intro G W ρ σ H ds xs R Q ok h f k
  rcases f with f | ⟨ks, e, ho, f⟩
  · exact .inl (cd_repr G W ρ σ H ds xs R Q ok h f k)
  · subst e
    match h with
    | .cons (.dic f1 a1 n1) .nil =>
      have hr := a1.rd
      rw [dnk_ints n1] at hr
      exact .inr ⟨_, ks, rfl, hr, ho, k _ _ _ _ f (.refl ok) (.of (.str _))⟩

theorem l_reprX {d : D} (h : d.okRepr) : M.lift (fReprX [d]) = M.one (.d (.str d.py.shown)) := lift_one fun R => by
  refine propext ⟨fun z => ?_, fun z => .inl ⟨h, z⟩⟩
  rcases z with z | ⟨ks, e, _, _⟩
  · exact z.2
  · injection e with e _
    subst e
    exact nomatch (show false = true from h.1)

theorem l_reprD {ks : List (Key × Int)} (h : okD ks) : M.lift (fReprX [.dic (ks.map fun p => (p.1, .int p.2))]) = M.one (.d (.str (PyData.dict (pyKs ks)).shown)) := lift_one fun R => by
  refine propext ⟨fun z => ?_, fun z => .inr ⟨ks, rfl, h, z⟩⟩
  rcases z with z | ⟨js, e, _, z⟩
  · exact nomatch (show false = true from z.1.1)
  · rw [ks_inj (show (ks.map fun p : Key × Int => (p.1, D.int p.2)) = js.map fun p => (p.1, D.int p.2) by injection e with e _; injection e)]; exact z

end DL









/-! DL34: texts: str(i), str(x) by its own method, sep.join(xs), text.split(sep), the signs of a text, a sign in a text, int(text), order. -/

namespace DL

open PySem PySem.Spec L2

section

variable {X : Cx} {G : Gx} {T : WX} {a b c e o value : Expr} {w wa wb wo : WE} {pos pos' p apos cpos : Pos} {i k j : Nat} {C : Str} {wf : WF} {p0 : Str} {K : PySem.W.Frag}

theorem dnA_strs {W : Wd} {H : Hp} : ∀ ys : List Str, DnA K W H (ys.map .str) (ys.map V.str)
  | [] => .nil
  | y :: ys => .cons (.str y) (dnA_strs ys)

def fStrI (ds : List D) (R : S → Prop) : Prop := ∃ i : Int, ds = [.int i] ∧ i.natAbs.log2 < 1920 ∧ R (.d (.str (Str.ofString (toString i))))

theorem cd_strI : CaD K (fun xs H Q => ∃ i : Int, xs = [.int i] ∧ i.natAbs.log2 < 1920 ∧ Q (.str (toString i)) H) fStrI := by
  intro G W ρ σ H ds xs R Q ok h f k
  obtain ⟨i, rfl, h1, h2⟩ := f
  cases h with | cons g h4 => cases h4; cases g; exact ⟨i, rfl, h1, k _ _ _ _ h2 (.refl ok) (.of (.str _))⟩

def fIntS (ds : List D) (R : S → Prop) : Prop := ∃ (a : Str) (n : Int), ds = [.str a] ∧ PySem.intText? a = some n ∧ a.length ≤ 640 ∧ R (.d (.int n))

theorem cd_intS : CaD K (fun xs H Q => ∃ a n, xs = [.str a] ∧ PySem.intText? a = some n ∧ a.length ≤ 640 ∧ Q (.int n) H) fIntS := by
  intro G W ρ σ H ds xs R Q ok h f k
  obtain ⟨a, n, rfl, h1, h2, h3⟩ := f
  match xs, h with
  | _, .cons (.str _) .nil => exact ⟨a, n, rfl, h1, h2, k _ _ _ _ h3 (.refl ok) (.of (.int _))⟩

/-! ### methods of a text -/

def wM1 (f : D → D → (S → Prop) → Prop) (wa wb : WE) : WE := fun Z ρ R => wa Z ρ fun x ρ1 => (∃ s, x.frz = .str s) ∧ wb Z ρ1 fun y ρ2 => f x.frz y.frz fun z => R z ρ2

theorem lE_m1 {r : V → List V → Hp → VK → Prop} {f : D → D → (S → Prop) → Prop} (ho : OpD X.K (fun x y H Q => r x [y] H Q) f) {σ : L2.St} {H : Hp} {Q : VK} (h : lE X.K G T (wM1 f wa wb) σ H Q) : tM1 r (lE X.K G T wa) (lE X.K G T wb) σ H Q := by
  obtain ⟨W, ρ, R, Z, ok, h, hR, hZ⟩ := h
  refine lE_then (R := fun x ρ1 => (∃ s, x = .str s) ∧ wb Z ρ1 fun y ρ2 => f x y.frz fun z => R z ρ2) ok h hZ fun d ρ1 W1 x H1 h1 g1 d1 => ?_
  obtain ⟨⟨s, rfl⟩, h1⟩ := h1
  refine ⟨by cases d1; exact ⟨_, rfl⟩, ?_⟩
  refine lE_then (R := fun y ρ2 => f (.str s) y fun z => R z ρ2) g1.ok h1 (hZ.go g1) fun e ρ2 W2 y H2 h2 g2 d2 => ?_
  refine ho G W2 ρ2 σ H2 (.str s) e x y _ Q g2.ok (d1.le g2.stp.le) d2 h2 fun z W' v H' hz g3 r3 => ?_
  exact hR z ρ2 W' v H' hz ((g1.trans g2).trans g3) (r3.up fun a q => (g1.trans g2).stp.up a q)

def fJoin (d e : D) (R : S → Prop) : Prop := ∃ (a : Str) (ys : List Str), d = .str a ∧ (e = .lst (ys.map .str) ∨ e = .tup (ys.map .str)) ∧ (ys.map (·.length)).sum + ys.length * a.length ≤ 16777216 ∧ R (.d (.str (Txt.join a ys)))

theorem od_join : OpD K (fun x y H Q => ∃ a p, ∃ ys : List Str, x = .str a ∧ [y] = [.ref p] ∧ (SqL K H p (ys.map V.str) ∨ SqT K H p (ys.map V.str)) ∧ (ys.map (·.length)).sum + ys.length * a.length ≤ 16777216 ∧ Q (.str (Txt.join a ys)) H) fJoin := by
  intro G W ρ σ H d e x y R Q ok hx hy f k
  obtain ⟨a, ys, rfl, h1, h2, h3⟩ := f
  cases hx
  rcases h1 with rfl | rfl
  · match y, hy with
    | _, .lst h0 h1 h2' =>
      rw [h2'.map_str] at h1
      exact ⟨a, _, ys, rfl, rfl, .inl (SqL.of h1), h2, k _ _ _ _ h3 (.refl ok) (.of (.str _))⟩
  · match y, hy with
    | _, .tup h1 h2' =>
      rw [h2'.map_str] at h1
      exact ⟨a, _, ys, rfl, rfl, .inr h1.sq, h2, k _ _ _ _ h3 (.refl ok) (.of (.str _))⟩

def fSplit (d e : D) (R : S → Prop) : Prop := ∃ a b : Str, d = .str a ∧ e = .str b ∧ (b.length == 0) = false ∧ a.length + 2 ≤ sizeLine ∧ R (.own ((Txt.split a b).map .str))

theorem od_split : OpD K (fun x y H Q => ∃ a b, x = .str a ∧ [y] = [.str b] ∧ (b.length == 0) = false ∧ a.length + 2 ≤ sizeLine ∧ rNewStrs (Txt.split a b) H Q) fSplit := by
  intro G W ρ σ H d e x y R Q ok hx hy f k
  obtain ⟨a, b, rfl, rfl, h1, h2, h3⟩ := f
  cases hx
  cases hy
  exact ⟨a, b, rfl, rfl, h1, h2, fun l hl => k _ _ _ _ h3 (.new ok hl) (res_own ok hl hl (dnA_strs _))⟩

/-! ### a sign in a text, order -/

def fInS (d e : D) (R : S → Prop) : Prop := ∃ (c : Nat) (z : Str), d = .str ⟨#[c]⟩ ∧ e = .str z ∧ R (.d (.bl (decide (c ∈ z.cps.toList))))

theorem od_inS : OpD K (fun x y H Q => ∃ (c : Nat) (z : Str), x = .str ⟨#[c]⟩ ∧ y = .str z ∧ Q (.bl (decide (c ∈ z.cps.toList))) H) fInS := by
  intro G W ρ σ H d e x y R Q ok hx hy f k
  obtain ⟨c, z, rfl, rfl, h⟩ := f
  cases hx
  cases hy
  exact ⟨c, z, rfl, rfl, k _ _ _ _ h (.refl ok) (.of (.bl _))⟩

def fLeS (d e : D) (R : S → Prop) : Prop := ∃ i j : Str, d = .str i ∧ e = .str j ∧ R (.d (.bl (!decide (j.cps.toList < i.cps.toList))))

theorem od_leS : OpD K (fun x y H Q => ∃ i j, x = .str i ∧ y = .str j ∧ Q (.bl (!decide (j.cps.toList < i.cps.toList))) H) fLeS := by
  intro G W ρ σ H d e x y R Q ok hx hy f k
  obtain ⟨c, z, rfl, rfl, h⟩ := f
  cases hx
  cases hy
  exact ⟨c, z, rfl, rfl, k _ _ _ _ h (.refl ok) (.of (.bl _))⟩

/-! ### the signs of a text -/

def charsD (s : Str) : List D := s.cps.toList.map fun c => .str ⟨#[c]⟩

theorem its_ok {W : Wd} {H : Hp} {s : Str} : ItOk K W H (Its s) (charsD s) := fun i W1 H1 l al => by
  unfold charsD
  refine ⟨fun h => ?_, fun d hd => ?_⟩
  · have h : s.cps.toList.length ≤ i := by simpa using h
    show s.cps.size ≤ i
    simpa using h
  · rw [List.getElem?_map] at hd
    cases q : s.cps.toList[i]? with
    | none => rw [q] at hd; cases hd
    | some c =>
      rw [q] at hd
      cases hd
      have qa : s.cps[i]? = some c := by simpa using q
      refine ⟨?_, fun y H2 hy => ?_⟩
      · exact (Array.getElem?_eq_some_iff.mp qa).1
      · obtain ⟨e1, c', e2, e3⟩ := hy
        subst e1 e3
        rw [qa] at e2
        cases e2
        exact ⟨W1, .refl _ _ _, al, ⟨rfl, fun _ _ => rfl⟩, .str _⟩

def wChars (w : WE) : WI := fun Z ρ N => w Z ρ fun d ρ' => ∃ s, d.frz = .str s ∧ N (charsD s) ρ'

theorem di_chars {tg : Expr} (he : DE X G T e w) : DI X G T tg e (wChars w) :=
  pi_weak (pi_str he) fun σ H R ⟨W, ρ, N, Z, ok, h, hN, hZ⟩ => by
    refine lE_then (R := fun d ρ' => ∃ s, d = .str s ∧ N (charsD s) ρ') ok h hZ fun d ρ1 W1 x H1 ⟨s, h1, h2⟩ g1 d1 => ?_
    subst h1
    cases d1
    exact ⟨s, rfl, hN _ _ _ _ _ h2 g1 its_ok⟩

/-! ### str(x) of an instance -/

theorem run_sp2 {pins : List (Addr × Obj)} {σ : L2.St} {H : Hp} {s : Shared} {us : List Value} {vs : List V} {ps : List Str} {ds : List D} {W : Wd} {μ : Mem} {R : S → Mem → Prop} {fa : Addr} {fd : FuncData} (Cx : CxG X T k) (F : FnG X.prog X.w X.K X.mg X.base j fa fd ps wf) (hbi : Binds X.K fd ps []) (hj : j + 2 ≤ k)
    (I : Inv X pins σ H s) (rv : Vals vs us) (hl : ds.length = ps.length) (al : Al W H) (mm : Cells X.K W μ H) (hg : W.g = X.mg) (da : DnA X.K W H ds vs) (hw : wf (fun _ _ => False) ds μ R) :
    wpAny (model X.prog X.w) X.A.in1.in1 (call (.ref fa) us) (fun u s' => ∃ d μ' W' x H', R d μ' ∧ Ret X.K W H W' H' d μ' x ∧ Inv X pins σ H' s' ∧ RelV x u) X.xe s := by
  have hr : Room (j + 2) X.A := Cx.rm.mono hj
  have hlen : us.length = ps.length := by rw [← rv.length, ← da.length, hl]
  refine wpAny_call (codeAny_mono (F X.A.in1.in1 X.stack s H ⟨us, []⟩ us vs ds W μ R (fun _ _ => False) (fun x H' => ∃ d μ' W', R d μ' ∧ Ret X.K W H W' H' d μ' x) (fun _ _ _ => False) Cx.gd hr.in1.in1 I.env0.in1.in1 (by
      have := hbi s us I.kIn (by simpa using hlen)
      simpa using this) rv hl al mm hg da hw (fun d' μ' W' x H' hr rt => ⟨d', μ', W', hr, rt⟩) (fun _ _ _ _ _ _ q => q.elim)) fun r s' hq => ?_)
  match r, hq with
  | .error er, hq => obtain ⟨_, _, _, _, _, _, _, _, _, _, _, _, z⟩ := hq; exact z.elim
  | .ok (.ret u), hq =>
    obtain ⟨v, H', I3, rv, d, μ', W', q1, q2⟩ := I.after hq
    exact ⟨d, μ', W', v, H', q1, q2, I3, rv⟩

def rStrO (K : PySem.W.Frag) (mg : Str → Option Value) (C : Str) (wf : WF) : List V → Hp → VK → Prop := fun xs H Q => ∃ (W : Wd) (μ : Mem) (d : D) (x : V) (R : Str → Mem → Prop), xs = [x] ∧ Al W H ∧ Cells K W μ H ∧ W.g = mg ∧ Dn K W H d x ∧ (∃ fs, d.fsOf C μ = some fs) ∧
  wf (fun _ _ => False) [d] μ (fun s μ' => ∃ i : Str, s = .d (.str i) ∧ R i μ') ∧ ∀ i μ' W' H', R i μ' → Step no1 W H W' H' → Al W' H' → Cells K W' μ' H' → Q (.str i) H'

theorem call_strO {qual : Str} {st : Stmt} (Cx : CxG X T k) (F : DfM X.prog X.w X.K X.mg X.base j C "__str__" qual st [p0] wf) (hj : j + 3 ≤ k) : CallR X (.type "str") (rStrO X.K X.mg C wf) := by
  obtain ⟨Ca, fa, fd, hm, cl, me, _, hbi, F⟩ := F
  intro pins s σ H xs us Q I r h
  obtain ⟨W, μ, d, x, R, rfl, al, mm, hg, dn, ⟨fs, e⟩, hw, hq⟩ := h
  obtain ⟨u, rfl, ru⟩ := vals1 r
  obtain ⟨a, Cb, dx, vs, rfl, hC, hH, hfs⟩ := fsOf_cells mm (by rw [hg, hm]) dn e
  rw [hg, hm] at hC
  cases hC
  obtain rfl : u = Value.ref a := ru
  obtain ⟨mA, O, _, _, _, _⟩ := ins_get I.hok hH
  obtain ⟨od, J, _⟩ := O.look
  have hu : X.A.in1.in1.units < cLine := by
    have := ((Cx.rm.mono (show 2 ≤ k by omega)).in1.in1).un
    omega
  refine PySem.W.kso_call hu I.kIn J me.at_ me.fn (wpAny_mono (run_sp2 (vs := [V.ref a]) (us := [Value.ref a]) Cx F hbi (by omega) I (.cons rfl .nil) rfl al mm hg (.cons dn .nil) hw) (fun u s' q => ?_) fun _ _ y => y)
  obtain ⟨d', μ', W', x, H', ⟨i, rfl, hR⟩, rt, I', rx⟩ := q
  have q : Dn X.K W' H' (.str i) x := rt.res.rs
  cases q
  obtain ⟨t, rfl⟩ : ∃ t, u = .str i t := rx
  exact ⟨V.str i, H', I', ⟨t, rfl⟩, hq i μ' W' H' hR rt.stp rt.al rt.mm⟩

/-- str(e), an instance of C -/
def wStrO (C : Str) (wf : WF) (wa : WE) : WE := fun Z ρ R => wa Z ρ fun x ρ1 => (∃ fs, x.frz.fsOf C ρ1.mm = some fs) ∧ wf (fun _ _ => False) [x.frz] ρ1.mm fun s μ => ∃ i : Str, s = .d (.str i) ∧ R (.d (.str i)) ⟨ρ1.sl, μ⟩

theorem de_strO {qual : Str} {st : Stmt} (Cx : CxG X T k) (hG : G.W.g = X.mg) (F : DfM X.prog X.w X.K X.mg X.base j C "__str__" qual st [p0] wf) (hj : j + 3 ≤ k) (hg : Gl X "str") (hm : X.mg "str" = none) (ha : DE X G T a wa)
    (he : starEach [a] X.env = (false, eval a X.env) :: starEach [] X.env := by rfl) (hpl : (backTo pos (starEach [] X.env)).any (·.1) = false := by rfl) : DE X G T (.Call (.Name "str" p) [a] [] pos) (wStrO C wf wa) :=
  pe_weak (pe_callTy (call_strO Cx F hj) hg hm (by decide +kernel) (pa_cons ha pa_nil he) (by decide) (by decide) he hpl) fun σ H Q ⟨W, ρ, R, Z, ok, h, hR, hZ⟩ => by
    refine lE_then (R := fun x ρ1 => (∃ fs, x.fsOf C ρ1.mm = some fs) ∧ wf (fun _ _ => False) [x] ρ1.mm fun s μ => ∃ i : Str, s = .d (.str i) ∧ R (.d (.str i)) ⟨ρ1.sl, μ⟩) ok h hZ fun d ρ1 W1 x H1 h1 g1 d1 => ?_
    exact ⟨W1, ρ1.mm, d, x, fun i μ => R (.d (.str i)) ⟨ρ1.sl, μ⟩, rfl, g1.ok.al, g1.ok.mm, g1.ok.en.le.g.trans hG, d1, h1.1, h1.2, fun i μ' W' H' hr st al mm => hR _ ⟨ρ1.sl, μ'⟩ W' _ H' hr (g1.trans (g1.ok.grow st al mm)) (.of (.str i))⟩

end

end DL








/-! ML20: the equations of texts. -/

namespace DL

open PySem PySem.Spec L2

section

variable {X : Cx} {G : Gx} {T : WX} {a b c e o value : Expr} {ma mb mo : EM S} {mu mk : EM (List D)} {pos pos' p apos cpos : Pos} {i k j : Nat} {f C m : Str} {ps : List Str} {es : List Expr} {kws : List Keyword} {p0 : Str} {ρ : Sl} {g : FM}

def strO (s : S) (ρ : Sl) : ME S := match s with
  | .d (.str i) => ok (.d (.str i)) ρ
  | _ => M.bad

@[simp ↓] theorem strO_s {i : Str} {ρ : Sl} : strO (.d (.str i)) ρ = ok (.d (.str i)) ρ := rfl

theorem wp_strO {s : S} {ρ : Sl} {μ : Mem} {P : Oc S × Sl → Mem → Prop} : (strO s ρ).wp μ P = ∃ i : Str, s = .d (.str i) ∧ P (.v (.d (.str i)), ρ) μ := by
  unfold strO
  split
  · exact propext ⟨fun h => ⟨_, rfl, h⟩, fun ⟨i, e, h⟩ => by cases e; exact h⟩
  · rename_i h
    exact propext ⟨fun q => q.elim, fun ⟨i, e, _⟩ => h i e⟩

def mStrO (C : Str) (g : FM) (ma : EM S) : EM S := fun ρ => bindE (ma ρ) fun x ρ1 => M.ask fun μ => optM (x.frz.fsOf C μ) fun _ => bindE (putN (g [x.frz]) ρ1) fun s ρ2 => strO s ρ2

@[simp ↓] theorem m_strO {g : FM} {ρ : Sl} : mStrO C g ma ρ = bindE (ma ρ) fun x ρ1 => M.ask fun μ => optM (x.frz.fsOf C μ) fun _ => bindE (putN (g [x.frz]) ρ1) fun s ρ2 => strO s ρ2 := rfl

theorem tw_strO {g : FM} : tw (mStrO C g ma) = wStrO C (tf g) (tw ma) := by
  funext Z ρ R
  simp only [tw, mStrO, twE, wp_ask, wp_optM, wStrO, tf]
  congr 1
  funext r μ
  congr 1
  funext x
  have e : ∀ ρ1 : Sl, (putN (g [x.frz]) ρ1).wp μ (fun r μ => r.1.elim (fun a => (strO a r.2).wp μ fun r μ => r.1.elim (fun a => R a ⟨r.2, μ⟩) fun e => Z e ⟨r.2, μ⟩) fun e => Z e ⟨r.2, μ⟩) = (g [x.frz]).wp μ fun r μ => r.elim (fun s => ∃ i : Str, s = .d (.str i) ∧ R (.d (.str i)) ⟨ρ1, μ⟩) fun e => False := by
    intro ρ1
    unfold putN
    simp only [wp_bind]
    congr 1
    funext r μ1
    cases r with
    | v s =>
      simp only [oc_v]
      show (strO s ρ1).wp μ1 _ = _
      rw [wp_strO]; rfl
    | x e => rfl
  simp only [e]
  exact propext ⟨fun ⟨fs, h1, h2⟩ => ⟨⟨fs, h1⟩, h2⟩, fun ⟨⟨fs, h1⟩, h2⟩ => ⟨fs, h1, h2⟩⟩

theorem qe_strO {qual : Str} {st : Stmt} {g : FM} (Cx : CxG X T k) (hG : G.W.g = X.mg) (F : DfM X.prog X.w X.K X.mg X.base j C "__str__" qual st [p0] (tf g)) (hj : j + 3 ≤ k) (hg : Gl X "str") (hm : X.mg "str" = none) (ha : QE X G T a ma)
    (he : starEach [a] X.env = (false, eval a X.env) :: starEach [] X.env := by rfl) (hpl : (backTo pos (starEach [] X.env)).any (·.1) = false := by rfl) : QE X G T (.Call (.Name "str" p) [a] [] pos) (mStrO C g ma) := by
  unfold QE; rw [tw_strO]; exact de_strO Cx hG F hj hg hm ha he hpl

/-! ### methods of a text -/

def strM {α : Type} (d : D) (m : M α) : M α := match d with
  | .str _ => m
  | _ => M.bad

@[simp ↓] theorem strM_s {α : Type} {s : Str} {m : M α} : strM (.str s) m = m := rfl

theorem wp_strM {α : Type} {d : D} {m : M α} {μ : Mem} {P : α → Mem → Prop} : (strM d m).wp μ P = ((∃ s, d = .str s) ∧ m.wp μ P) := by
  unfold strM
  split
  · exact propext ⟨fun h => ⟨⟨_, rfl⟩, h⟩, fun h => h.2⟩
  · rename_i h
    exact propext ⟨fun q => q.elim, fun ⟨⟨s, e⟩, _⟩ => h s e⟩

def mM1 (f : D → D → (S → Prop) → Prop) (ma mb : EM S) : EM S := fun ρ => bindE (ma ρ) fun x ρ1 => strM x.frz (bindE (mb ρ1) fun y ρ2 => putM (M.lift (f x.frz y.frz)) ρ2)

@[simp ↓] theorem m_M1 {f : D → D → (S → Prop) → Prop} : mM1 f ma mb ρ = bindE (ma ρ) fun x ρ1 => strM x.frz (bindE (mb ρ1) fun y ρ2 => putM (M.lift (f x.frz y.frz)) ρ2) := rfl

theorem tw_M1 {f : D → D → (S → Prop) → Prop} : tw (mM1 f ma mb) = wM1 (mc2 f) (tw ma) (tw mb) := by
  funext Z ρ R
  simp only [tw, mM1, twE, wp_strM, tw_putM]; rfl

theorem qe_join (ha : QE X G T o ma) (hb : QE X G T e mb) (hs : starEach [e] X.env = [(false, eval e X.env)] := by rfl) (hbase : attributeBase o "join" X.env (eval o X.env) = eval o X.env := by rfl) (hline : (apos.endLine == pos.line) = true := by rfl) :
    QE X G T (.Call (.Attribute o "join" apos) [e] [] pos) (mM1 fJoin ma mb) := by
  unfold QE; rw [tw_M1]; exact pe_weak (pe_join ha hb hs hbase hline) fun _ _ _ h => lE_m1 (od_mc od_join) h

theorem qe_split (ha : QE X G T o ma) (hb : QE X G T e mb) (hs : starEach [e] X.env = [(false, eval e X.env)] := by rfl) (hbase : attributeBase o "split" X.env (eval o X.env) = eval o X.env := by rfl) (hline : (apos.endLine == pos.line) = true := by rfl) :
    QE X G T (.Call (.Attribute o "split" apos) [e] [] pos) (mM1 fSplit ma mb) := by
  unfold QE; rw [tw_M1]; exact pe_weak (pe_split ha hb hs hbase hline) fun _ _ _ h => lE_m1 (od_mc od_split) h

/-! ### the signs of a text -/

def asChars (s : S) (ρ : Sl) : ME (List D) := match s.frz with
  | .str t => ok (charsD t) ρ
  | _ => M.bad

@[simp ↓] theorem asChars_s {t : Str} : asChars (.d (.str t)) ρ = ok (charsD t) ρ := rfl

theorem wp_asChars {s : S} {ρ : Sl} {μ : Mem} {P : Oc (List D) × Sl → Mem → Prop} : (asChars s ρ).wp μ P = ∃ t, s.frz = .str t ∧ P (.v (charsD t), ρ) μ := by
  unfold asChars
  split
  · rename_i t h
    exact propext ⟨fun q => ⟨t, h, q⟩, fun ⟨t', e, q⟩ => by rw [h] at e; cases e; exact q⟩
  · rename_i h
    exact propext ⟨fun q => q.elim, fun ⟨t', e, _⟩ => h t' e⟩

def mChars (m : EM S) : EM (List D) := fun ρ => bindE (m ρ) asChars

@[simp ↓] theorem m_chars : mChars ma ρ = bindE (ma ρ) asChars := rfl

theorem tw_chars : tw (mChars ma) = wChars (tw ma) := by
  funext Z ρ R
  simp only [tw, mChars, twE, wp_asChars]; rfl

theorem qi_chars {tg : Expr} (he : QE X G T e ma) : QI X G T tg e (mChars ma) := by
  unfold QI; rw [tw_chars]; exact di_chars he

/-! ### the equations -/

@[simp] theorem l_strI {n : Int} : M.lift (fStrI [.int n]) = (M.one (.d (.str (Str.ofString (toString n))))).req (n.natAbs.log2 < 1920) := lift_req fun R => by
  unfold fStrI
  exact propext ⟨fun ⟨i, e, h1, h2⟩ => by cases e; exact ⟨h1, h2⟩, fun h => ⟨n, rfl, h.1, h.2⟩⟩

theorem l_intS {s : Str} {n : Int} (h : PySem.intText? s = some n) (hl : s.length ≤ 640) : M.lift (fIntS [.str s]) = M.one (.d (.int n)) := lift_one fun R => by
  unfold fIntS
  exact propext ⟨fun ⟨i, m, e, h1, _, h2⟩ => by cases e; rw [h] at h1; cases h1; exact h2, fun q => ⟨s, n, rfl, h, hl, q⟩⟩

theorem map_str_inj : ∀ {a b : List Str}, a.map D.str = b.map D.str → a = b
  | [], [], _ => rfl
  | x :: a, [], h => by cases h
  | [], y :: b, h => by cases h
  | x :: a, y :: b, h => by
    injection h with h1 h2
    injection h1 with h1
    rw [h1, map_str_inj h2]

@[simp] theorem l_join {s : Str} {ys : List Str} : M.lift (fJoin (.str s) (.lst (ys.map .str))) = (M.one (.d (.str (Txt.join s ys)))).req ((ys.map (·.length)).sum + ys.length * s.length ≤ 16777216) := lift_req fun R => by
  unfold fJoin
  refine propext ⟨fun ⟨a, zs, e, h1, h2, h3⟩ => ?_, fun ⟨h1, h2⟩ => ⟨s, ys, rfl, .inl rfl, h1, h2⟩⟩
  cases e
  rcases h1 with h1 | h1
  · injection h1 with h1
    rw [map_str_inj h1]; exact ⟨h2, h3⟩
  · cases h1

theorem map_strc {α : Type} {h : α → Str} {l : List α} : (l.map fun x => D.str (h x)) = (l.map h).map D.str := by rw [List.map_map]; rfl

@[simp] theorem l_joinM {α : Type} {s : Str} {h : α → Str} {l : List α} : M.lift (fJoin (.str s) (.lst (l.map fun x => .str (h x)))) = (M.one (.d (.str (Txt.join s (l.map h))))).req (((l.map h).map (·.length)).sum + l.length * s.length ≤ 16777216) := by
  rw [map_strc, l_join, List.length_map]

@[simp] theorem l_split {s t : Str} : M.lift (fSplit (.str s) (.str t)) = (M.one (.own ((Txt.split s t).map .str))).req ((t.length == 0) = false ∧ s.length + 2 ≤ sizeLine) := lift_req fun R => by
  unfold fSplit
  exact propext ⟨fun ⟨a, b, e, e2, h1, h2, h3⟩ => by cases e; cases e2; exact ⟨⟨h1, h2⟩, h3⟩, fun ⟨h1, h2⟩ => ⟨s, t, rfl, rfl, h1.1, h1.2, h2⟩⟩

@[simp] theorem l_inS {c : Nat} {z : Str} : M.lift (fInS (.str ⟨#[c]⟩) (.str z)) = M.one (.d (.bl (decide (c ∈ z.cps.toList)))) := lift_one fun R => by
  unfold fInS
  exact propext ⟨fun ⟨c', z', e, e2, h⟩ => by cases e; cases e2; exact h, fun h => ⟨c, z, rfl, rfl, h⟩⟩

@[simp] theorem l_leS {s t : Str} : M.lift (fLeS (.str s) (.str t)) = M.one (.d (.bl (!decide (t.cps.toList < s.cps.toList)))) := lift_one fun R => by
  unfold fLeS
  exact propext ⟨fun ⟨c', z', e, e2, h⟩ => by cases e; cases e2; exact h, fun h => ⟨s, t, rfl, rfl, h⟩⟩

end

end DL









/-! DL35: == and != of an instance by its own __eq__. -/

namespace PySem.W

open PySem PySem.Spec PySem.Calls PyProof.Rows

section

variable {prog : Program} {w : World} {A : Around} {E : Value → Shared → Prop} {s : Shared} {K : Frag} {x C L f : Addr} {h₀ : Heap} {m : Str → Option Value} {ox : Obj} {od : Option Obj} {b tb : Value}

end

end PySem.W

namespace DL

open PySem PySem.Spec L2

/-- what may stand on the other side -/
def okRt (C : Str) (e : D) (μ : Mem) : Prop := match e.own μ with
  | some C' => C' = C
  | none => e.tyName.isSome = true

section

variable {X : Cx} {G : Gx} {T : WX} {a b c e o value : Expr} {w wa wb wo : WE} {pos pos' p apos cpos : Pos} {i k j : Nat} {C : Str} {wf : WF} {p0 p1 : Str} {ps : List Str} {ng : Bool}

/-! ### x is True -/

def fIsB (d e : D) (R : S → Prop) : Prop := ∃ i j : Bool, d = .bl i ∧ e = .bl j ∧ R (.d (.bl (decide (i = j))))

def fNotB (d e : D) (R : S → Prop) : Prop := ∃ i j : Bool, d = .bl i ∧ e = .bl j ∧ R (.d (.bl (!decide (i = j))))

end

end DL








/-! ML21: == and != by an own __eq__. -/

namespace DL

open PySem PySem.Spec L2

section

variable {X : Cx} {G : Gx} {T : WX} {a b c e o value : Expr} {ma mb mo : EM S} {pos p : Pos} {i k j : Nat} {C : Str} {p0 p1 : Str} {ρ : Sl} {g : FM} {ng : Bool}

def bxO (ng : Bool) (s : S) (ρ : Sl) : ME S := match s with
  | .d (.bl i) => ok (.d (.bl (xor ng i))) ρ
  | _ => M.bad

@[simp ↓] theorem bxO_f {i : Bool} {ρ : Sl} : bxO false (.d (.bl i)) ρ = ok (.d (.bl i)) ρ := by cases i <;> rfl

@[simp ↓] theorem bxO_t {i : Bool} {ρ : Sl} : bxO true (.d (.bl i)) ρ = ok (.d (.bl (!i))) ρ := by cases i <;> rfl

def mCmpO (ng : Bool) (C : Str) (g : FM) (ma mb : EM S) : EM S := fun ρ => bindE (ma ρ) fun x ρ1 => bindE (mb ρ1) fun y ρ2 => M.ask fun μ => optM (x.frz.fsOf C μ) fun _ => (bindE (putN (g [x.frz, y.frz]) ρ2) fun s ρ3 => bxO ng s ρ3).req (okRt C y.frz μ)

@[simp ↓] theorem m_cmpO : mCmpO ng C g ma mb ρ = bindE (ma ρ) fun x ρ1 => bindE (mb ρ1) fun y ρ2 => M.ask fun μ => optM (x.frz.fsOf C μ) fun _ => (bindE (putN (g [x.frz, y.frz]) ρ2) fun s ρ3 => bxO ng s ρ3).req (okRt C y.frz μ) := rfl

variable {μ : Mem}

@[simp] theorem okRt_non : okRt C .non μ = True := eq_true rfl

@[simp] theorem okRt_bl {x : Bool} : okRt C (.bl x) μ = True := eq_true rfl

@[simp] theorem okRt_int {x : Int} : okRt C (.int x) μ = True := eq_true rfl

@[simp] theorem okRt_str {x : Str} : okRt C (.str x) μ = True := eq_true rfl

@[simp] theorem okRt_tup {x : List D} : okRt C (.tup x) μ = True := eq_true rfl

@[simp] theorem okRt_lst {x : List D} : okRt C (.lst x) μ = True := eq_true rfl

@[simp] theorem okRt_dic {x : List (Key × D)} : okRt C (.dic x) μ = True := eq_true rfl

@[simp] theorem okRt_ins {C' : Str} {fs : List (Str × D)} : okRt C (.ins C' fs) μ = (C' = C) := rfl

end

@[simp] theorem l_isB {i j : Bool} : M.lift (fIsB (.bl i) (.bl j)) = M.one (.d (.bl (decide (i = j)))) := lift_one fun R => by
  unfold fIsB
  exact propext ⟨fun ⟨a, b, e, e2, h⟩ => by cases e; cases e2; exact h, fun h => ⟨i, j, rfl, rfl, h⟩⟩

@[simp] theorem l_notB {i j : Bool} : M.lift (fNotB (.bl i) (.bl j)) = M.one (.d (.bl (!decide (i = j)))) := lift_one fun R => by
  unfold fNotB
  exact propext ⟨fun ⟨a, b, e, e2, h⟩ => by cases e; cases e2; exact h, fun h => ⟨i, j, rfl, rfl, h⟩⟩

/-! ### C(..) as a fact of the top -/

end DL







/-! DL36: a dict of the caller's that a def changes: a cell of the class dict while the call runs. -/

namespace DL

open PySem PySem.Spec L2

def D.sc : D → Bool
  | .non => true
  | .bl _ => true
  | .int _ => true
  | .str _ => true
  | _ => false

def S.plain : S → Prop
  | S.d x => x.sc = true
  | S.own xs => ∀ x ∈ xs, x.sc = true
  | _ => False

def dCell (kvs : List (Key × D)) : Cell := ⟨"dict", [(("" : Str), .dic kvs)]⟩

/-- the dict in a cell -/
def dicC (μ : Mem) (j : Nat) : Option (List (Key × D)) := (μ[j]?).bind fun c => if c.cls = "dict" then (match c.fs with
  | [(_, .dic kvs)] => some kvs
  | _ => none) else none

theorem dicC_d {μ : Mem} {j : Nat} {kvs : List (Key × D)} (h : μ[j]? = some (dCell kvs)) : dicC μ j = some kvs := by
  unfold dicC
  rw [h]
  rfl

section

variable {K : PySem.W.Frag} {W W' : Wd} {H H' : Hp}

/-- the cells cut off -/
def Wd.cut (W : Wd) (n : Nat) : Wd := ⟨W.F, W.J, W.C.take n, W.g, W.T⟩

mutual
theorem Dn.ctC : ∀ {d : D} {v0 v : V}, Dn K W H d v0 → Dn K W' H' d v → Dn K (W'.cut W.C.length) H' d v
  | _, _, _, .non, .non => .non
  | _, _, _, .bl b, .bl _ => .bl b
  | _, _, _, .int b, .int _ => .int b
  | _, _, _, .str b, .str _ => .str b
  | _, _, _, .tup _ h, .tup h1 h2 => .tup h1 (DnA.ctC h h2)
  | _, _, _, .lst _ _ h, .lst h1 h2 h3 => .lst h1 h2 (DnA.ctC h h3)
  | _, _, _, .rls _ h, .rls h1 h2 => .rls h1 (DnA.ctC h h2)
  | _, _, _, .dic _ _ h, .dic h1 h2 h3 => .dic h1 ⟨h2.rd⟩ (DnK.ctC h h3)
  | _, _, _, .ins _ _ _ h, .ins h1 h2 h3 h4 => .ins h1 h2 h3 (DnF.ctC h h4)
  | _, _, _, .cell h, .cell h1 => .cell (by
      show (W'.C.take W.C.length)[_]? = _
      rw [List.getElem?_take_of_lt (List.getElem?_eq_some_iff.mp h).1]; exact h1)
  | _, _, _, .cls _, .cls h1 => .cls h1
  | _, _, _, .exc0 _ _ _, .exc0 h1 h2 h3 => .exc0 h1 h2 h3
  | _, _, _, .exc0 _ _ _, .exc h1 h2 h3 h4 h5 .nil => .exc h1 h2 h3 h4 h5 .nil
  | _, _, _, .exc _ _ _ _ _ .nil, .exc0 h1 h2 h3 => .exc0 h1 h2 h3
  | _, _, _, .exc _ _ _ _ _ h, .exc h1 h2 h3 h4 h5 h6 => .exc h1 h2 h3 h4 h5 (DnF.ctC h h6)
  | _, _, _, .jar _ _, .jar h n => .jar h n
  | _, _, _, .v x, .v _ => .v x
theorem DnA.ctC : ∀ {d : List D} {v0 v : List V}, DnA K W H d v0 → DnA K W' H' d v → DnA K (W'.cut W.C.length) H' d v
  | _, _, _, .nil, .nil => .nil
  | _, _, _, .cons h1 h2, .cons k1 k2 => .cons (Dn.ctC h1 k1) (DnA.ctC h2 k2)
theorem DnK.ctC : ∀ {d : List (Key × D)} {v0 v : List (Key × V)}, DnK K W H d v0 → DnK K W' H' d v → DnK K (W'.cut W.C.length) H' d v
  | _, _, _, .nil, .nil => .nil
  | _, _, _, .cons h1 h2, .cons k1 k2 => .cons (Dn.ctC h1 k1) (DnK.ctC h2 k2)
theorem DnF.ctC : ∀ {d : List (Str × D)} {v0 v : List (Str × V)}, DnF K W H d v0 → DnF K W' H' d v → DnF K (W'.cut W.C.length) H' d v
  | _, _, _, .nil, .nil => .nil
  | _, _, _, .cons h1 h2, .cons k1 k2 => .cons (Dn.ctC h1 k1) (DnF.ctC h2 k2)
end

theorem JarAt.cut {n : Nat} {a : Addr} (h : JarAt W H a) : JarAt (W.cut n) H a := by
  unfold JarAt TabW at *
  exact h

theorem CellAt.cut {c : Cell} {a a0 : Addr} (h0 : CellAt K W H c a0) (hg : W'.g = W.g) (h : CellAt K W' H' c a) : CellAt K (W'.cut W.C.length) H' c a := by
  rcases h0 with ⟨Ca, dx, vs, h1, h2, h3⟩ | ⟨h1, kvs, vs, h2, h3, h4⟩
  · rcases h with ⟨Cb, dy, ws, k1, k2, k3⟩ | ⟨k1, _⟩
    · exact .inl ⟨Cb, dy, ws, k1, k2, h3.ctC k3⟩
    · rw [hg, h1] at k1; cases k1
  · rcases h with ⟨Cb, dy, ws, k1, k2, k3⟩ | ⟨k1, kvs', ws, k2, k3, k4⟩
    · rw [hg, h1] at k1; cases k1
    · rw [h2] at k2
      cases k2
      exact .inr ⟨k1, kvs, ws, h2, k3, h4.ctC k4⟩

end

section

variable {K : PySem.W.Frag} {G : Gx} {σ : L2.St} {ρ : Rho} {W : Wd} {H : Hp}

end

section

variable {X : Cx} {G : Gx} {T : WX} {a b c e : Expr} {w wa wb wk : WE} {pos p px apos cpos tpos : Pos} {k j : Nat} {f : Addr} {fd : FuncData} {ps : List Str} {wf : WF}

end

/-! ### xs.index(e), a list of ints -/

section

variable {X : Cx} {G : Gx} {T : WX} {e : Expr} {we : WE} {p apos cpos : Pos}

def intsOf : List D → Option (List Int)
  | [] => some []
  | .int b :: ds => (intsOf ds).map (b :: ·)
  | _ :: _ => none

theorem intsOf_map : ∀ {ns : List Int}, intsOf (ns.map .int) = some ns
  | [] => rfl
  | n :: ns => by
    show (intsOf (ns.map .int)).map (n :: ·) = some (n :: ns)
    rw [intsOf_map]; rfl

/-- the list of ints that a slot holds -/
def S.ints (s : S) : Option (List Int) := match s with
  | .own ds => intsOf ds
  | .d (.lst ds) => intsOf ds
  | .d (.rls ds) => intsOf ds
  | _ => none

end

/-! ### len(x), x a slot with an own dict -/

section

variable {X : Cx} {G : Gx} {T : WX} {p pos cpos : Pos}

end

end DL








/-! ML22: a dict of the caller's that a def changes. -/

namespace DL

open PySem PySem.Spec L2

section

variable {α β : Type} {X : Cx} {G : Gx} {T : WX} {a b c e : Expr} {ma mb mk w wk : EM S} {pos p px tpos : Pos} {i k j : Nat} {p0 p1 p2 : Str} {ρ : Sl} {g : FM} {neg : Bool}

def celM (o : Option (Option S)) (μ : Mem) (f : Nat → List (Key × D) → M β) : M β := match o with
  | some (some (.d (.cell j))) => optM (dicC μ j) (f j)
  | _ => M.bad

@[simp ↓] theorem celM_s {j : Nat} {μ : Mem} {f : Nat → List (Key × D) → M β} : celM (some (some (.d (.cell j)))) μ f = optM (dicC μ j) (f j) := rfl

@[simp ↓] theorem dicC_app {μ : Mem} {kvs : List (Key × D)} : dicC (μ ++ [dCell kvs]) μ.length = some kvs := dicC_d (by rw [List.getElem?_append_right (Nat.le_refl _), Nat.sub_self]; rfl)

@[simp ↓] theorem set_app {μ : Mem} {c c' : Cell} : (μ ++ [c]).set μ.length c' = μ ++ [c'] := by
  rw [List.set_append_right _ _ (Nat.le_refl _), Nat.sub_self]; rfl

def mDinC (neg : Bool) (i : Nat) (mk : EM S) : EM S := fun ρ => (bindE (mk ρ) fun k ρ1 => M.ask fun μ => celM ρ1[i]? μ fun _ kvs => keyM k.frz.key fun κ => ok (.d (.bl ((valD kvs κ).isSome ^^ neg))) ρ1).req (∃ s0, ρ[i]? = some (some s0))

@[simp ↓] theorem m_dinC : mDinC neg i mk ρ = (bindE (mk ρ) fun k ρ1 => M.ask fun μ => celM ρ1[i]? μ fun _ kvs => keyM k.frz.key fun κ => ok (.d (.bl ((valD kvs κ).isSome ^^ neg))) ρ1).req (∃ s0, ρ[i]? = some (some s0)) := rfl

def mDputC (i : Nat) (wk w : EM S) : SM := fun ρ => bindES (w ρ) fun d ρ1 => (bindES (wk ρ1) fun k ρ2 => M.ask fun μ => celM ρ2[i]? μ fun j kvs => keyM k.frz.key fun κ => (M.upd (fun μ => μ.set j (dCell (putD kvs κ d.frz))) (nx ρ2)).req (kvs.length < sizeLine)).req (∃ s0, ρ1[i]? = some (some s0))

@[simp ↓] theorem m_dputC : mDputC i wk w ρ = bindES (w ρ) fun d ρ1 => (bindES (wk ρ1) fun k ρ2 => M.ask fun μ => celM ρ2[i]? μ fun j kvs => keyM k.frz.key fun κ => (M.upd (fun μ => μ.set j (dCell (putD kvs κ d.frz))) (nx ρ2)).req (kvs.length < sizeLine)).req (∃ s0, ρ1[i]? = some (some s0)) := rfl

/-- a def with a dict that it changes: its answer, the dict behind it -/
def withD (g : FM) (as : List D) (kvs : List (Key × D)) : M (S × List (Key × D)) :=
  ⟨fun μ P => (g (as ++ [.cell μ.length])).wp (μ ++ [dCell kvs]) fun r μ' => ∃ s kvs', r = .v s ∧ s.plain ∧ (∀ d ∈ kvs', d.2.sc = true) ∧ μ' = μ ++ [dCell kvs'] ∧ P (s, kvs') μ,
    fun h q => (g _).mono (fun r μ' ⟨s, kvs', h1, h2, h3, h4, h5⟩ => ⟨s, kvs', h1, h2, h3, h4, h _ _ h5⟩) q⟩

def mCallO (i : Nat) (g : FM) (ma mb : EM S) : EM S := fun ρ => (bindE (ma ρ) fun x ρ1 => bindE (mb ρ1) fun y ρ2 => odicM ρ2[i]? fun kvs => (withD g [x.frz, y.frz] kvs).bind fun r => ok r.1 (ρ2.set i (some (.odic r.2)))).req (∃ s0, ρ[i]? = some (some s0))

@[simp ↓] theorem m_callO : mCallO i g ma mb ρ = (bindE (ma ρ) fun x ρ1 => bindE (mb ρ1) fun y ρ2 => odicM ρ2[i]? fun kvs => (withD g [x.frz, y.frz] kvs).bind fun r => ok r.1 (ρ2.set i (some (.odic r.2)))).req (∃ s0, ρ[i]? = some (some s0)) := rfl

end

section

variable {f : Mem → MS} {g : Mem → Mem} {m : MS} {k : Sl → MS} {vs : List Nat}

@[simp ↓] theorem bL_ask : bindL (M.ask f) k = M.ask fun μ => bindL (f μ) k := rfl

@[simp ↓] theorem bL_upd : bindL (M.upd g m) k = M.upd g (bindL m k) := rfl

@[simp ↓] theorem lE_ask : loopEnd vs (M.ask f) = M.ask fun μ => loopEnd vs (f μ) := rfl

@[simp ↓] theorem lE_upd : loopEnd vs (M.upd g m) = M.upd g (loopEnd vs m) := rfl

end

/-! ### xs.index(e) -/

section

variable {β : Type} {X : Cx} {G : Gx} {T : WX} {e : Expr} {me : EM S} {p apos cpos : Pos} {ρ : Sl} {i : Nat}

def intsM (o : Option (Option S)) (f : List Int → M β) : M β := match o with
  | some (some s) => optM s.ints f
  | _ => M.bad

@[simp ↓] theorem intsM_s {s : S} {f : List Int → M β} : intsM (some (some s)) f = optM s.ints f := rfl

@[simp ↓] theorem ints_own {ns : List Int} : (S.own (ns.map .int)).ints = some ns := intsOf_map

@[simp ↓] theorem ints_lst {ns : List Int} : (S.d (.lst (ns.map .int))).ints = some ns := intsOf_map

@[simp ↓] theorem ints_rls {ns : List Int} : (S.d (.rls (ns.map .int))).ints = some ns := intsOf_map

def intM (d : D) (f : Int → M β) : M β := match d with
  | .int n => f n
  | _ => M.bad

@[simp ↓] theorem intM_i {n : Int} {f : Int → M β} : intM (.int n) f = f n := rfl

def mIdxV (i : Nat) (me : EM S) : EM S := fun ρ => (bindE (me ρ) fun k ρ1 => intsM ρ1[i]? fun ns => intM k.frz fun n => (ok (.d (.int (ns.idxOf n : Nat))) ρ1).req (n ∈ ns)).req (∃ s0 ns0, ρ[i]? = some (some s0) ∧ s0.ints = some ns0)

@[simp ↓] theorem m_idxV : mIdxV i me ρ = (bindE (me ρ) fun k ρ1 => intsM ρ1[i]? fun ns => intM k.frz fun n => (ok (.d (.int (ns.idxOf n : Nat))) ρ1).req (n ∈ ns)).req (∃ s0 ns0, ρ[i]? = some (some s0) ∧ s0.ints = some ns0) := rfl

end

/-! ### len(x), x an own dict -/

section

variable {X : Cx} {G : Gx} {T : WX} {p pos cpos : Pos} {ρ : Sl} {i : Nat}

def mLenDV (i : Nat) : EM S := fun ρ => odicM ρ[i]? fun kvs => ok (.d (.int kvs.length)) ρ

@[simp ↓] theorem m_lenDV : mLenDV i ρ = odicM ρ[i]? fun kvs => ok (.d (.int kvs.length)) ρ := rfl

end

end DL









/-! DL37: the truth of an instance without a __bool__ and a __len__. -/

namespace DL

open PySem PySem.Spec L2

section

variable {X : Cx} {G : Gx} {T : WX} {a : Expr} {wa : WE} {ma : EM S} {C : Str} {ρ : Sl}

def mTruI (C : Str) (ma : EM S) : EM Bool := fun ρ => bindE (ma ρ) fun x ρ1 => M.ask fun μ => optM (x.frz.fsOf C μ) fun _ => ok true ρ1

@[simp ↓] theorem m_truI : mTruI C ma ρ = bindE (ma ρ) fun x ρ1 => M.ask fun μ => optM (x.frz.fsOf C μ) fun _ => ok true ρ1 := rfl

end

end DL







/-! DL38: sorted of a tuple of ints. -/

namespace DL

open PySem PySem.Spec L2 PyProof.Rows

section

variable {prog : Program} {w : World} {A : Around} {E : Value → Shared → Prop} {s : Shared}

end

def fSortedIT (ds : List D) (R : S → Prop) : Prop := ∃ ns : List Int, ds = [.tup (ns.map .int)] ∧ R (.own ((isort ns).map .int))

@[simp] theorem l_sortedIT {ns : List Int} : M.lift (fSortedIT [.tup (ns.map .int)]) = M.one (.own ((isort ns).map .int)) := lift_one fun R => propext ⟨fun ⟨ms, e, h⟩ => by
  injection e with e _
  injection e with e
  rw [int_inj e]; exact h, fun h => ⟨ns, rfl, h⟩⟩

end DL









/-! DL39: a built-in value == an instance with its own __eq__. -/

namespace PySem.W

open PySem PySem.Spec PySem.Calls PyProof.Rows

section

variable {prog : Program} {w : World} {A : Around} {E : Value → Shared → Prop} {s : Shared} {K : Frag} {x C f : Addr} {ox : Obj} {od : Option Obj} {a : Value} {Ta ida : String}

end

end PySem.W

namespace DL

open PySem PySem.Spec L2

/-- a value of the language's own kinds -/
def D.bi : D → Bool
  | .non => true
  | .bl _ => true
  | .int _ => true
  | .str _ => true
  | .tup _ => true
  | .lst _ => true
  | .rls _ => true
  | .dic _ => true
  | _ => false

section

variable {X : Cx} {G : Gx} {T : WX} {a b c e : Expr} {wa wb : WE} {ma mb : EM S} {pos p : Pos} {i k j : Nat} {C : Str} {wf : WF} {p0 p1 : Str} {ps : List Str} {ρ : Sl} {g : FM}

def mEqY (C : Str) (g : FM) (ma mb : EM S) : EM S := fun ρ => bindE (ma ρ) fun x ρ1 => bindE (mb ρ1) fun y ρ2 => M.ask fun μ => optM (y.frz.fsOf C μ) fun _ => if x.frz.bi = true then bindE (putN (g [y.frz, x.frz]) ρ2) fun s ρ3 => bxO false s ρ3
  else optM (x.frz.fsOf C μ) fun _ => (bindE (putN (g [x.frz, y.frz]) ρ2) fun s ρ3 => bxO false s ρ3).req (okRt C y.frz μ)

@[simp ↓] theorem m_eqY : mEqY C g ma mb ρ = bindE (ma ρ) fun x ρ1 => bindE (mb ρ1) fun y ρ2 => M.ask fun μ => optM (y.frz.fsOf C μ) fun _ => if x.frz.bi = true then bindE (putN (g [y.frz, x.frz]) ρ2) fun s ρ3 => bxO false s ρ3
  else optM (x.frz.fsOf C μ) fun _ => (bindE (putN (g [x.frz, y.frz]) ρ2) fun s ρ3 => bxO false s ρ3).req (okRt C y.frz μ) := rfl

end

end DL








/-! DL40: bool(x) of an instance with its own __len__. -/

namespace DL

open PySem PySem.Spec L2 PyProof.Rows

section

variable {prog : Program} {w : World} {A : Around} {E : Value → Shared → Prop} {s : Shared} {K : PySem.W.Frag} {x C f : Addr} {ox : Obj} {od : Option Obj}

end

section

variable {X : Cx} {G : Gx} {T : WX} {a : Expr} {wa : WE} {ma : EM S} {pos p : Pos} {k j : Nat} {C : Str} {wf : WF} {p0 : Str} {ρ : Sl} {g : FM}

def bnI (s : S) (ρ : Sl) : ME S := match s with
  | .d (.int i) => ok (.d (.bl (i != 0))) ρ
  | _ => M.bad

@[simp ↓] theorem bnI_i {i : Int} : bnI (.d (.int i)) ρ = ok (.d (.bl (i != 0))) ρ := rfl

def mBoolO (C : Str) (g : FM) (ma : EM S) : EM S := fun ρ => bindE (mLenO C g ma ρ) bnI

@[simp ↓] theorem m_boolO : mBoolO C g ma ρ = bindE (mLenO C g ma ρ) bnI := rfl

end

end DL







/-! DL41: bool(x) of an instance with its own __bool__. -/

namespace DL

open PySem PySem.Spec L2 PyProof.Rows

section

variable {prog : Program} {w : World} {A : Around} {E : Value → Shared → Prop} {s : Shared} {K : PySem.W.Frag} {x C f : Addr} {ox : Obj} {od : Option Obj}

end

section

variable {X : Cx} {G : Gx} {T : WX} {a : Expr} {wa : WE} {ma : EM S} {pos p : Pos} {k j : Nat} {C : Str} {wf : WF} {p0 : Str} {ρ : Sl} {g : FM}

def blO (s : S) (ρ : Sl) : ME S := match s with
  | .d (.bl b) => ok (.d (.bl b)) ρ
  | _ => M.bad

@[simp ↓] theorem blO_b {b : Bool} : blO (.d (.bl b)) ρ = ok (.d (.bl b)) ρ := rfl

def mBoolB (C : Str) (g : FM) (ma : EM S) : EM S := fun ρ => bindE (ma ρ) fun x ρ1 => M.ask fun μ => optM (x.frz.fsOf C μ) fun _ => bindE (putN (g [x.frz]) ρ1) fun s ρ2 => blO s ρ2

@[simp ↓] theorem m_boolB : mBoolB C g ma ρ = bindE (ma ρ) fun x ρ1 => M.ask fun μ => optM (x.frz.fsOf C μ) fun _ => bindE (putN (g [x.frz]) ρ1) fun s ρ2 => blO s ρ2 := rfl

end

end DL







/-! DL42: what the module's top holds: dicts of ints with text keys, tuples of texts. -/

namespace DL

open PySem PySem.Spec L2

def tabFits : List DictEntry → List (Str × Int) → Bool
  | [], [] => true
  | e :: es, (k, v) :: r => (match e.key, e.val with
    | .str x _, .int i _ => x == k && i == v
    | _, _ => false) && tabFits es r
  | _, _ => false

def tabAt (tab : List (Str × Int)) (z : Str) : Option Int := (tab.find? fun p => p.1 == z).map (·.2)

theorem tabFits_find {z : Str} : ∀ {es : List DictEntry} {tab : List (Str × Int)}, tabFits es tab = true → es.any (·.refKey) = false ∧ (match tabAt tab z with
    | some i => ∃ e t, es.find? (·.key.isStr z) = some e ∧ e.val = .int i t
    | none => es.find? (·.key.isStr z) = none)
  | [], [], _ => ⟨rfl, rfl⟩
  | e :: es, (k, v) :: r, h => by
    unfold tabFits at h
    rw [Bool.and_eq_true] at h
    obtain ⟨h1, h2⟩ := h
    split at h1
    · rename_i x _ i t ek ev
      rw [Bool.and_eq_true] at h1
      have e1 : x = k := beq_iff_eq.mp h1.1
      have e2 : i = v := beq_iff_eq.mp h1.2
      subst e1 e2
      obtain ⟨i1, i2⟩ := tabFits_find (z := z) h2
      have hr : e.refKey = false := by unfold DictEntry.refKey; rw [ek]
      refine ⟨by rw [List.any_cons, hr, i1]; rfl, ?_⟩
      unfold tabAt
      have hs : e.key.isStr z = (x == z) := by
        rw [ek]
        rfl
      cases q : x == z with
      | true =>
        rw [List.find?_cons_of_pos (by exact q)]
        exact ⟨e, t, List.find?_cons_of_pos (by rw [hs]; exact q), ev⟩
      | false =>
        rw [List.find?_cons_of_neg (by rw [q]; decide)]
        unfold tabAt at i2
        rw [List.find?_cons_of_neg (by rw [hs, q]; decide)]
        exact i2
    · cases h1
  | [], _ :: _, h => by cases h
  | _ :: _, [], h => by cases h

/-- a dict of the module: text keys, ints -/
def KTab (w : World) (K : PySem.W.Frag) (mg : Str → Option Value) (x : Str) (tab : List (Str × Int)) : Prop :=
  ∃ a es n, mg x = some (.ref a) ∧ KDict K w a es n ∧ tabFits es.toList tab = true

theorem KTab.at_ {K : PySem.W.Frag} {a : Addr} {es : Array DictEntry} {n : Nat} {tab : List (Str × Int)} (l : K.lookup a = some ⟨.type "dict", none, .dict es n, #[]⟩) (h : tabFits es.toList tab = true) (z : Str) : match tabAt tab z with
    | some i => ∃ t, PySem.W.nsIn K a z = some (some (.int i t))
    | none => PySem.W.nsIn K a z = some none := by
  obtain ⟨h1, h2⟩ := tabFits_find (z := z) h
  unfold PySem.W.nsIn
  rw [l]
  cases q : tabAt tab z with
  | some i =>
    rw [q] at h2
    obtain ⟨e, t, e1, e2⟩ := h2
    refine ⟨t, ?_⟩
    dsimp only
    rw [e1]
    exact congrArg (fun v => some (some v)) e2
  | none =>
    rw [q] at h2
    dsimp only at h2 ⊢
    rw [h2, h1]
    rfl

def fTabIn (ng : Bool) (tab : List (Str × Int)) (d : D) (R : S → Prop) : Prop := ∃ z, d = .str z ∧ R (.d (.bl ((tabAt tab z).isSome != ng)))

@[simp] theorem l_tabIn {ng : Bool} {tab : List (Str × Int)} {z : Str} : M.lift (fTabIn ng tab (.str z)) = M.one (.d (.bl ((tabAt tab z).isSome != ng))) := lift_one fun R => propext ⟨fun ⟨_, e, h⟩ => by cases e; exact h, fun h => ⟨z, rfl, h⟩⟩

section

variable {X : Cx} {G : Gx} {T : WX} {a : Expr} {ma : EM S} {pos p : Pos} {x : Str} {tab : List (Str × Int)}

variable (hg : Gl X x := by rfl) (hd : (x == ("__debug__" : Str)) = false := by decide)

/-! ### tuples of texts -/

end

end DL









/-! DL43: what is never reached; bool(int); patterns as targets; x[k], y = a, b; zip; a star in a display. -/

namespace DL

open PySem PySem.Spec L2

section

variable {X : Cx} {G : Gx} {T : WX} {a b c e : Expr} {wa wb wc w : WE} {ma mb mk : EM S} {pos p p2 : Pos} {ρ : Sl}

/-! ### never reached -/

def mBadE {α : Type} : EM α := fun _ => M.bad

@[simp ↓] theorem m_badE {α : Type} : (mBadE : EM α) ρ = M.bad := rfl

/-! ### bool(an int), bool(a bool) -/

def fBoolI (ds : List D) (R : S → Prop) : Prop := match ds with
  | [.int i] => R (.d (.bl (i != 0)))
  | [.bl k] => R (.d (.bl k))
  | _ => False

@[simp] theorem l_boolI {i : Int} : M.lift (fBoolI [.int i]) = M.one (.d (.bl (i != 0))) := lift_one fun _ => rfl

@[simp] theorem l_boolB {i : Bool} : M.lift (fBoolI [.bl i]) = M.one (.d (.bl i)) := lift_one fun _ => rfl

/-! ### targets: patterns of names -/

mutual
inductive Pat where
  | nm (i : Nat) | tup (ps : Pats)
inductive Pats where
  | nil | cons (p : Pat) (ps : Pats)
end

def Pats.len : Pats → Nat
  | .nil => 0
  | .cons _ ps => ps.len + 1

mutual
def patL : Pat → D → Option (List (Nat × D))
  | .nm i, d => some [(i, d)]
  | .tup ps, .tup ds => patsL ps ds
  | .tup _, _ => none
def patsL : Pats → List D → Option (List (Nat × D))
  | .nil, [] => some []
  | .cons p ps, d :: ds => match patL p d, patsL ps ds with
    | some l, some m => some (l ++ m)
    | _, _ => none
  | _, _ => none
end

def fPat (p : Pat) (d : D) (N : List (Nat × D) → Prop) : Prop := ∃ l, patL p d = some l ∧ N l

/-- a pattern's target -/
def TgP (X : Cx) (tg : Expr) (p : Pat) (g : TG) : Prop := PG X tg g ∧
  ∀ (W : Wd) (H : Hp) (x : V) (d : D) (σ : L2.St) (Q : L2.St → Hp → Prop) (l : List (Nat × D)), Dn X.K W H d x → patL p d = some l → (∀ xs, DnA X.K W H (l.map (·.2)) xs → Q (stores σ (l.map (·.1)) xs) H) → g x σ H Q

theorem TgP.tgtL {tg : Expr} {p : Pat} {g : TG} (h : TgP X tg p g) : TgtL X tg (fPat p) g :=
  ⟨h.1, fun W H x d σ Q N hd ⟨l, e, hN⟩ k => h.2 W H x d σ Q l hd e fun xs hx => k l xs hN hx⟩

theorem l_pat {p : Pat} {d : D} {l : List (Nat × D)} (h : patL p d = some l) : M.lift (fPat p d) = M.one l := lift_one fun R => propext ⟨fun ⟨m, e, q⟩ => by rw [h] at e; cases e; exact q, fun q => ⟨l, h, q⟩⟩

@[simp] theorem patL_nm {i : Nat} {d : D} : patL (.nm i) d = some [(i, d)] := by simp [patL]

@[simp] theorem patL_tup {ps : Pats} {ds : List D} : patL (.tup ps) (.tup ds) = patsL ps ds := by simp [patL]

@[simp] theorem patsL_nil : patsL .nil [] = some [] := by simp [patsL]

@[simp] theorem patsL_cons {p : Pat} {ps : Pats} {d : D} {ds : List D} : patsL (.cons p ps) (d :: ds) = match patL p d, patsL ps ds with
    | some l, some m => some (l ++ m)
    | _, _ => none := by simp [patsL]

/-- what a pattern makes of data -/
def patM (p : Pat) (d : D) : M (List (Nat × D)) := match patL p d with
  | some l => M.one l
  | none => M.bad

@[simp] theorem l_patM {p : Pat} {d : D} : M.lift (fPat p d) = patM p d := by
  unfold patM
  cases h : patL p d with
  | some l => exact l_pat h
  | none =>
    refine M.ext fun μ P => propext (Iff.intro (fun q => ?_) fun q => False.elim q)
    obtain ⟨R, ⟨l, e, _⟩, _⟩ := q
    rw [h] at e
    cases e

/-! ### x[k], y = a, b: x an own list -/

def wParI (i : Nat) (wk : WE) (j : Nat) (wa wb : WE) : WS := fun E ρ => wa E.ex ρ fun x ρ1 => wb E.ex ρ1 fun y ρ2 => (∃ s0, ρ2.sl[i]? = some (some s0)) ∧ wk E.ex ρ2 fun k ρ3 => match ρ3.sl[i]?, k.frz with
  | some (some (.own ds)), .int n => ∃ m, ixN ds.length n = some m ∧ E.nx ((ρ3.set i (some (.own (ds.set m x.frz)))).set j (some (.d y.frz)))
  | _, _ => False

def mParI (i : Nat) (mk : EM S) (j : Nat) (ma mb : EM S) : SM := fun ρ => bindES (ma ρ) fun x ρ1 => bindES (mb ρ1) fun y ρ2 => (bindES (mk ρ2) fun k ρ3 => match ρ3[i]?, k.frz with
  | some (some (.own ds)), .int n => optM (ixN ds.length n) fun m => nx ((ρ3.set i (some (.own (ds.set m x.frz)))).set j (some (.d y.frz)))
  | _, _ => M.bad).req (∃ s0, ρ2[i]? = some (some s0))

@[simp ↓] theorem m_parI {i j : Nat} : mParI i mk j ma mb ρ = bindES (ma ρ) fun x ρ1 => bindES (mb ρ1) fun y ρ2 => (bindES (mk ρ2) fun k ρ3 => match ρ3[i]?, k.frz with
  | some (some (.own ds)), .int n => optM (ixN ds.length n) fun m => nx ((ρ3.set i (some (.own (ds.set m x.frz)))).set j (some (.d y.frz)))
  | _, _ => M.bad).req (∃ s0, ρ2[i]? = some (some s0)) := rfl

/-! ### zip of two tuples, of two lists -/

def zipD (as bs : List D) : List D := (as.zip bs).map fun p => .tup [p.1, p.2]

def zipO : List D → Option (List D)
  | [.tup as, .tup bs] => some (zipD as bs)
  | [.lst as, .lst bs] => some (zipD as bs)
  | _ => none

def mZip (u : EM (List D)) : EM (List D) := fun ρ => bindE (u ρ) fun ds ρ1 => optM (zipO ds) fun l => ok l ρ1

@[simp ↓] theorem m_zip {u : EM (List D)} : mZip u ρ = bindE (u ρ) fun ds ρ1 => optM (zipO ds) fun l => ok l ρ1 := rfl

@[simp] theorem zipO_t {as bs : List D} : zipO [.tup as, .tup bs] = some (zipD as bs) := rfl

@[simp] theorem zipO_l {as bs : List D} : zipO [.lst as, .lst bs] = some (zipD as bs) := rfl

/-! ### a star in a display -/

def mStar (me : EM S) (u : EM (List D)) : EM (List D) := fun ρ => bindE (me ρ) fun x ρ1 => optM x.frz.items fun ds => bindE (u ρ1) fun es ρ2 => ok (ds ++ es) ρ2

@[simp ↓] theorem m_star {u : EM (List D)} : mStar ma u ρ = bindE (ma ρ) fun x ρ1 => optM x.frz.items fun ds => bindE (u ρ1) fun es ρ2 => ok (ds ++ es) ρ2 := rfl

end

end DL







/-! DL44: x[lo:hi] of an own list that stays its slot's own. -/

namespace DL

open PySem PySem.Spec L2

section

variable {X : Cx} {G : Gx} {T : WX} {a b c e : Expr} {wa wb wc w : WE} {ma mb mk : EM S} {pos p p2 : Pos} {ρ : Sl}

def wSlV (i : Nat) (wl wh : WO) : WE := fun Z ρ R => (∃ s0, ρ.sl[i]? = some (some s0)) ∧ wl Z ρ fun lo ρ2 => wh Z ρ2 fun hi ρ3 => match ρ3.sl[i]? with
  | some (some (.own ds)) => R (.own (cutD ds lo hi)) ρ3
  | _ => False

def mSlV (i : Nat) (wl wh : EM (Option Int)) : EM S := fun ρ => (bindE (wl ρ) fun lo ρ2 => bindE (wh ρ2) fun hi ρ3 => match ρ3[i]? with
  | some (some (.own ds)) => ok (.own (cutD ds lo hi)) ρ3
  | _ => M.bad).req (∃ s0, ρ[i]? = some (some s0))

@[simp ↓] theorem m_slV {i : Nat} {wl wh : EM (Option Int)} : mSlV i wl wh ρ = (bindE (wl ρ) fun lo ρ2 => bindE (wh ρ2) fun hi ρ3 => match ρ3[i]? with
  | some (some (.own ds)) => ok (.own (cutD ds lo hi)) ρ3
  | _ => M.bad).req (∃ s0, ρ[i]? = some (some s0)) := rfl

end

end DL



set_option maxHeartbeats 4000000
namespace Law
open PySem PySem.Spec
open L2 hiding nth
open DL

local macro_rules | `(tactic| walk_at "side") => `(tactic| first | assumption | omega | exact trivial | (refine And.intro ?_ ?_ <;> walk_at "side") | (intro _ <;> walk_at "side") | (refine mulOk_l ⟨?_, ?_⟩ <;> omega) | (refine mulOk_r ⟨?_, ?_⟩ <;> omega) | (refine divOk_n ?_ ?_ <;> omega) | (simp; done) | (simp at *; omega))

def xtab : XTab := [((Str.ofString "InvalidLists"), (Str.ofString "InvalidLists"), true), ((Str.ofString "InvalidLists"), (Str.ofString "NotPossible"), false), ((Str.ofString "InvalidLists"), (Str.ofString "WrongName"), false), ((Str.ofString "InvalidLists"), (Str.ofString "WrongValue"), true), ((Str.ofString "InvalidText"), (Str.ofString "InvalidLists"), false), ((Str.ofString "InvalidText"), (Str.ofString "NotPossible"), false), ((Str.ofString "InvalidText"), (Str.ofString "WrongName"), false), ((Str.ofString "InvalidText"), (Str.ofString "WrongValue"), true)]
def xown : List Str := [(Str.ofString "InvalidLists"), (Str.ofString "InvalidText")]
def xfld : List (Str × Str) := [((Str.ofString "InvalidText"), (Str.ofString "given"))]
def xist : XTab := [((Str.ofString "InvalidLists"), (Str.ofString "ArithmeticError"), false), ((Str.ofString "InvalidLists"), (Str.ofString "InvalidText"), false), ((Str.ofString "InvalidLists"), (Str.ofString "LookupError"), false), ((Str.ofString "InvalidLists"), (Str.ofString "NotPossible"), false), ((Str.ofString "InvalidLists"), (Str.ofString "ValueError"), true), ((Str.ofString "InvalidLists"), (Str.ofString "WrongName"), false), ((Str.ofString "InvalidLists"), (Str.ofString "WrongValue"), true), ((Str.ofString "InvalidText"), (Str.ofString "ArithmeticError"), false), ((Str.ofString "InvalidText"), (Str.ofString "InvalidText"), true), ((Str.ofString "InvalidText"), (Str.ofString "LookupError"), false), ((Str.ofString "InvalidText"), (Str.ofString "NotPossible"), false), ((Str.ofString "InvalidText"), (Str.ofString "ValueError"), true), ((Str.ofString "InvalidText"), (Str.ofString "WrongName"), false), ((Str.ofString "InvalidText"), (Str.ofString "WrongValue"), true)]
/-- is_integer(value); slots: 0 value -/
def b_is_integer : SM := (mRet (mAndV (mCallB fIsi (mCons (mVar 0) (mCons (mC (.v (.ty "int"))) mNil))) (mNotV (mCallB fIsi (mCons (mVar 0) (mCons (mC (.v (.ty "bool"))) mNil))))))
def f_is_integer : FM := defM b_is_integer [(Str.ofString "value")]
@[simp] theorem is_integer_eq {d : D} (h : d.known = true) : f_is_integer [d] = val (.d (.bl d.isI)) := by
  (conv => { lhs; simp -implicitDefEqProofs [l_neSelf, l_eqSelf, key_int, key_str, keyD, defM, initM, tail_mapS, take_mapS, drop_mapS, sl0, slI, lcAll_map, lcAll_rng, forL_map, forL_rng, -List.map_take, -List.map_drop, -List.map_tail, -List.map_reverse, f_is_integer, b_is_integer, h] })
  cases d <;> simp [D.isI, D.isBl]
@[simp] theorem is_integer_int {i : Int} : f_is_integer [.int i] = val (.d (.bl true)) := is_integer_eq rfl

/-- strictly ascending -/
abbrev Asc (ns : List Int) : Prop := ns.Pairwise (· < ·)
theorem asc_iff {ns : List Int} : Asc ns ↔ ∀ k, k + 1 < ns.length → nth ns k < nth ns (k + 1) := by
  induction ns with
  | nil => simp [Asc]
  | cons a l ih =>
    cases l with
    | nil => simp [Asc]
    | cons b m =>
      unfold Asc at ih ⊢
      rw [List.pairwise_cons, ih]
      constructor
      · rintro ⟨h1, h2⟩ k hk
        cases k with
        | zero => exact h1 b (List.mem_cons_self ..)
        | succ k => simpa using h2 k (by simpa using hk)
      · intro h
        refine ⟨fun x hx => ?_, fun k hk => by simpa using h (k + 1) (by simpa using hk)⟩
        have hb : a < b := by simpa using h 0 (by simp)
        rcases List.mem_cons.mp hx with rfl | hx
        · exact hb
        · have := (List.pairwise_cons.mp (ih.mpr fun k hk => by simpa using h (k + 1) (by simpa using hk))).1 x hx
          omega
/-- a list of the program -/
abbrev isListI (ns : List Int) : Bool := decide (ns ≠ [] ∧ ns.length ≤ 40 ∧ Asc ns)


--@use asc
/-- how many rows -/
def sizeL (ls : List (List Int)) : Nat := (ls.map List.length).prod
/-- a lot -/
def LotOk (ls : List (List Int)) : Prop := (1 ≤ ls.length ∧ ls.length ≤ 6) ∧ ∀ ns ∈ ls, ns ≠ [] ∧ ns.length ≤ 40 ∧ Asc ns
/-- a small lot -/
def LotSm (ls : List (List Int)) : Prop := LotOk ls ∧ sizeL ls ≤ 700 ∧ ls.length ≤ 4 ∧ ∀ ns ∈ ls, ∀ x ∈ ns, -(10 ^ 30) < x ∧ x < 10 ^ 30
/-- one step of a ladder -/
def stepL (q : Nat) (h : Int) (l : List Int) : List Int := (List.range q).flatMap fun (t : Nat) => l.map fun x => (t : Int) * h + x
/-- the lists of a ladder, as they are built -/
def bstep (a : List (List Int) × Int) (p : Nat × Nat) : List (List Int) × Int := (a.1.set p.2 (stepL p.1 a.2 (nth a.1 p.2)), a.2 * p.1)
def builtL (st : List (Nat × Nat)) (m : Nat) : List (List Int) × Int := st.foldl bstep (List.replicate m [0], 1)
/-- steps: at least 2, lists below m, neighbours unlike -/
def AltS : List (Nat × Nat) → Prop
  | p :: q :: r => p.2 ≠ q.2 ∧ AltS (q :: r)
  | _ => True
def StepsOk (m : Nat) (st : List (Nat × Nat)) : Prop := (∀ p ∈ st, 2 ≤ p.1 ∧ p.2 < m) ∧ AltS st
theorem stepL_len {q : Nat} {h : Int} {l : List Int} : (stepL q h l).length = q * l.length := by
  unfold stepL
  rw [List.length_flatMap]
  simp [List.map_const']
theorem stepL_pre (q : Nat) (h : Int) (l : List Int) : ∃ r, stepL (q + 1) h l = l ++ r := by
  unfold stepL
  rw [List.range_succ_eq_map, List.flatMap_cons]
  refine ⟨_, congrArg (· ++ _) ?_⟩
  simp
theorem altS_snoc {p : Nat × Nat} : ∀ {st : List (Nat × Nat)}, AltS st → (∀ q, st.getLast? = some q → q.2 ≠ p.2) → AltS (st ++ [p])
  | [], _, _ => trivial
  | [q], _, h => ⟨h q rfl, trivial⟩
  | q :: r :: st, h, k => ⟨h.1, altS_snoc (st := r :: st) h.2 fun z hz => k z (by rw [List.getLast?_cons_cons]; exact hz)⟩
/-- ascending below h -/
def Below (h : Int) (l : List Int) : Prop := Asc l ∧ ∀ x ∈ l, 0 ≤ x ∧ x < h
theorem stepL_succ {q : Nat} {h : Int} {l : List Int} : stepL (q + 1) h l = stepL q h l ++ l.map fun x => (q : Int) * h + x := by
  unfold stepL; rw [List.range_succ, List.flatMap_append]; simp
theorem stepL_below {h : Int} (hh : 0 ≤ h) {l : List Int} (b : Below h l) : ∀ q : Nat, Below (h * q) (stepL q h l) := fun q => by
  induction q with
  | zero => exact ⟨by simp [stepL, Asc], by simp [stepL]⟩
  | succ q ih =>
    rw [stepL_succ]
    have e : h * ((q + 1 : Nat) : Int) = q * h + h := by push_cast; rw [Int.mul_add, Int.mul_one, Int.mul_comm]
    have e2 : h * (q : Int) = q * h := Int.mul_comm ..
    refine ⟨?_, fun x hx => ?_⟩
    · refine List.pairwise_append.mpr ⟨ih.1, List.pairwise_map.mpr (b.1.imp fun h => by omega), fun x hx y hy => ?_⟩
      obtain ⟨z, hz, rfl⟩ := List.mem_map.mp hy
      have := ih.2 x hx
      have := b.2 z hz
      omega
    · have hq : 0 ≤ (q : Int) * h := Int.mul_nonneg (by omega) hh
      rcases List.mem_append.mp hx with hx | hx
      · have := ih.2 x hx; omega
      · obtain ⟨z, hz, rfl⟩ := List.mem_map.mp hx
        have := b.2 z hz
        omega
theorem Below.mono {h h' : Int} {l : List Int} (b : Below h l) (e : h ≤ h') : Below h' l := ⟨b.1, fun x hx => ⟨(b.2 x hx).1, by have := (b.2 x hx).2; omega⟩⟩
theorem Asc.sorted {l : List Int} (h : Asc l) : l.Pairwise (· ≤ ·) := h.imp fun h => Int.le_of_lt h
/-- what holds all the while -/
structure BOk (m : Nat) (a : List (List Int) × Int) : Prop where
  len : a.1.length = m
  pos : 1 ≤ a.2
  bel : ∀ l ∈ a.1, Below a.2 l
  ne : ∀ l ∈ a.1, ∃ r, l = 0 :: r
  size : (sizeL a.1 : Int) = a.2
theorem sizeL_set {ls : List (List Int)} {i : Nat} {l : List Int} {q : Nat} (hi : i < ls.length) (h : l.length = q * (nth ls i).length) : sizeL (ls.set i l) = q * sizeL ls := by
  unfold sizeL
  induction ls generalizing i with
  | nil => simp at hi
  | cons a ls ih =>
    cases i with
    | zero => simp only [List.set_cons_zero, List.map_cons, List.prod_cons]; rw [h]; show q * a.length * _ = _; rw [Nat.mul_assoc]
    | succ i =>
      simp only [List.set_cons_succ, List.map_cons, List.prod_cons]
      rw [ih (by simpa using hi) h, ← Nat.mul_assoc, ← Nat.mul_assoc, Nat.mul_comm a.length q]
theorem nth_in {α : Type} [Inhabited α] {l : List α} {i : Nat} (h : i < l.length) : nth l i ∈ l := by
  unfold nth; rw [List.getD_eq_getElem?_getD, List.getElem?_eq_getElem h]; exact List.getElem_mem h
theorem mem_set_or {α : Type} {l : List α} {i : Nat} {a x : α} (h : x ∈ l.set i a) : x = a ∨ x ∈ l := (List.mem_or_eq_of_mem_set h).symm
theorem BOk.step {m : Nat} {a : List (List Int) × Int} (b : BOk m a) {p : Nat × Nat} (h1 : 1 ≤ p.1) (h2 : p.2 < m) : BOk m (bstep a p) := by
  have hi : p.2 < a.1.length := by rw [b.len]; exact h2
  have hq : a.2 ≤ a.2 * (p.1 : Int) := by have := Int.mul_le_mul_of_nonneg_left (a := 1) (b := (p.1 : Int)) (c := a.2) (by omega) (by have := b.pos; omega); omega
  have hn := nth_in hi
  refine ⟨by simp [bstep, b.len], by have := b.pos; show 1 ≤ a.2 * (p.1 : Int); omega, fun l hl => ?_, fun l hl => ?_, ?_⟩
  · rcases mem_set_or hl with rfl | hl
    · exact stepL_below (by have := b.pos; omega) (b.bel _ hn) _
    · exact (b.bel l hl).mono hq
  · rcases mem_set_or hl with rfl | hl
    · obtain ⟨r, hr⟩ := b.ne _ hn
      obtain ⟨k, hk⟩ : ∃ k, p.1 = k + 1 := ⟨p.1 - 1, by omega⟩
      obtain ⟨r', e⟩ := stepL_pre k a.2 (nth a.1 p.2)
      exact ⟨r ++ r', by rw [hk, e, hr]; rfl⟩
    · exact b.ne l hl
  · show (sizeL (a.1.set p.2 (stepL p.1 a.2 (nth a.1 p.2))) : Int) = a.2 * (p.1 : Int)
    rw [sizeL_set hi stepL_len]
    push_cast
    rw [b.size, Int.mul_comm]
theorem prod_replicate_one (m : Nat) : ((List.replicate m ([0] : List Int)).map List.length).prod = 1 := by
  induction m with
  | zero => rfl
  | succ m ih => rw [List.replicate_succ, List.map_cons, List.prod_cons, ih]; rfl
theorem BOk.start {m : Nat} : BOk m (List.replicate m [0], 1) := by
  refine ⟨by simp, by simp, fun l hl => ?_, fun l hl => ?_, ?_⟩
  · rw [(List.mem_replicate.mp hl).2]; exact ⟨List.pairwise_singleton _ _, by simp⟩
  · rw [(List.mem_replicate.mp hl).2]; exact ⟨[], rfl⟩
  · show ((_ : Nat) : Int) = 1
    unfold sizeL; rw [prod_replicate_one]; rfl
theorem BOk.all {m : Nat} : ∀ {st : List (Nat × Nat)} {a : List (List Int) × Int}, BOk m a → (∀ p ∈ st, 2 ≤ p.1 ∧ p.2 < m) → BOk m (st.foldl bstep a)
  | [], _, b, _ => b
  | p :: st, a, b, h => BOk.all (st := st) (a := bstep a p) (b.step (by have := (h p (List.mem_cons_self ..)).1; omega) (h p (List.mem_cons_self ..)).2) fun q hq => h q (List.mem_cons_of_mem _ hq)
theorem built_ok {m : Nat} {st : List (Nat × Nat)} (h : ∀ p ∈ st, 2 ≤ p.1 ∧ p.2 < m) : BOk m (builtL st m) := BOk.start.all h
/-- the product of the steps -/
def prodS (st : List (Nat × Nat)) : Nat := (st.map Prod.fst).prod
theorem foldl_snd : ∀ {st : List (Nat × Nat)} {a : List (List Int) × Int}, (st.foldl bstep a).2 = a.2 * (prodS st : Int)
  | [], a => by simp [prodS]
  | p :: st, a => by
    rw [List.foldl_cons, foldl_snd]
    show a.2 * (p.1 : Int) * _ = _
    unfold prodS
    rw [List.map_cons, List.prod_cons]
    push_cast
    rw [Int.mul_assoc]
theorem built_snd {m : Nat} {st : List (Nat × Nat)} : (builtL st m).2 = (prodS st : Int) := by
  unfold builtL; rw [foldl_snd]; simp
theorem built_size {m : Nat} {st : List (Nat × Nat)} (h : ∀ p ∈ st, 2 ≤ p.1 ∧ p.2 < m) : sizeL (builtL st m).1 = prodS st := by
  have := (built_ok h).size
  rw [built_snd] at this
  omega
theorem mem_size : ∀ {ls : List (List Int)}, (∀ l ∈ ls, l ≠ []) → ∀ l ∈ ls, l.length ≤ sizeL ls ∧ 1 ≤ sizeL ls
  | a :: ls, h, l, hl => by
    have ih := mem_size (ls := ls) fun l hl => h l (List.mem_cons_of_mem _ hl)
    have ha : 1 ≤ a.length := List.length_pos_iff.mpr (h a (List.mem_cons_self ..))
    have e : sizeL (a :: ls) = a.length * sizeL ls := by unfold sizeL; rw [List.map_cons, List.prod_cons]
    have h1 : 1 ≤ sizeL ls := by
      cases ls with
      | nil => exact Nat.le_refl 1
      | cons b ls => exact (ih b (List.mem_cons_self ..)).2
    rw [e]
    refine ⟨?_, Nat.mul_le_mul ha h1⟩
    rcases List.mem_cons.mp hl with rfl | hl
    · exact Nat.le_mul_of_pos_right _ h1
    · exact Nat.le_trans (ih l hl).1 (Nat.le_mul_of_pos_left _ ha)
theorem BOk.nonempty {m : Nat} {a : List (List Int) × Int} (b : BOk m a) : ∀ l ∈ a.1, l ≠ [] := fun l hl => by
  obtain ⟨r, e⟩ := b.ne l hl; rw [e]; simp
theorem built_len_le {m : Nat} {st : List (Nat × Nat)} (h : ∀ p ∈ st, 2 ≤ p.1 ∧ p.2 < m) : ∀ l ∈ (builtL st m).1, l.length ≤ prodS st := fun l hl => by
  have := (mem_size (built_ok h).nonempty l hl).1
  rw [built_size h] at this; exact this
theorem prodS_append {a b : List (Nat × Nat)} : prodS (a ++ b) = prodS a * prodS b := by unfold prodS; rw [List.map_append, List.prod_append]
theorem prodS_pos {a : List (Nat × Nat)} (h : ∀ p ∈ a, 1 ≤ p.1) : 1 ≤ prodS a := by
  unfold prodS
  induction a with
  | nil => exact Nat.le_refl 1
  | cons p a ih =>
    rw [List.map_cons, List.prod_cons]
    exact Nat.mul_le_mul (h p (List.mem_cons_self ..)) (ih fun q hq => h q (List.mem_cons_of_mem _ hq))
theorem prodS_pre {pre post : List (Nat × Nat)} {p : Nat × Nat} (h : ∀ q ∈ post, 1 ≤ q.1) : prodS pre * p.1 ≤ prodS (pre ++ p :: post) := by
  rw [prodS_append]
  have : prodS (p :: post) = p.1 * prodS post := by unfold prodS; rw [List.map_cons, List.prod_cons]
  rw [this]
  exact Nat.mul_le_mul_left _ (Nat.le_mul_of_pos_right _ (prodS_pos h))


--@use lot
theorem prodS_le {q : Nat} : ∀ {st : List (Nat × Nat)}, (∀ p ∈ st, p.1 ≤ q) → prodS st ≤ q ^ st.length
  | [], _ => by simp [prodS]
  | p :: st, h => by
    have ih := prodS_le (q := q) (st := st) fun r hr => h r (List.mem_cons_of_mem _ hr)
    have : prodS (p :: st) = p.1 * prodS st := by unfold prodS; rw [List.map_cons, List.prod_cons]
    rw [this, List.length_cons, Nat.pow_succ, Nat.mul_comm]
    exact Nat.mul_le_mul ih (h p (List.mem_cons_self ..))
/-- the steps of one list -/
def stepsAt (i : Nat) (st : List (Nat × Nat)) : List (Nat × Nat) := st.filter fun p => decide (p.2 = i)
theorem stepsAt_cons {i : Nat} {p : Nat × Nat} {st : List (Nat × Nat)} : stepsAt i (p :: st) = if p.2 = i then p :: stepsAt i st else stepsAt i st := by
  unfold stepsAt; rw [List.filter_cons]; split <;> simp_all
theorem stepsAt_half {i : Nat} : ∀ {st : List (Nat × Nat)}, AltS st → 2 * (stepsAt i st).length ≤ st.length + 1
  | [], _ => by simp [stepsAt]
  | [p], _ => by rw [stepsAt_cons]; split <;> simp [stepsAt]
  | p :: q :: st, h => by
    have h2 : AltS st := by
      have := h.2
      cases st with
      | nil => trivial
      | cons r st => exact this.2
    have ih := stepsAt_half (i := i) (st := st) h2
    have hpq := h.1
    rw [stepsAt_cons, stepsAt_cons]
    split <;> split <;> simp only [List.length_cons] <;> first | omega | (exfalso; omega)
theorem nth_set {α : Type} [Inhabited α] {l : List α} {i j : Nat} {a : α} (hi : i < l.length) : nth (l.set i a) j = if i = j then a else nth l j := by
  unfold nth
  rw [List.getD_eq_getElem?_getD, List.getElem?_set, List.getD_eq_getElem?_getD]
  by_cases e : i = j
  · rw [if_pos e, if_pos e]; subst e; rw [if_pos hi]; rfl
  · rw [if_neg e, if_neg e]
theorem foldl_len {m i : Nat} : ∀ {st : List (Nat × Nat)} {a : List (List Int) × Int}, a.1.length = m → (∀ p ∈ st, p.2 < m) → (nth (st.foldl bstep a).1 i).length = prodS (stepsAt i st) * (nth a.1 i).length
  | [], a, _, _ => by simp [stepsAt, prodS]
  | p :: st, a, h, hs => by
    have hp := hs p (List.mem_cons_self ..)
    rw [List.foldl_cons, foldl_len (m := m) (by simp [bstep, h]) fun q hq => hs q (List.mem_cons_of_mem _ hq), stepsAt_cons]
    show _ * (nth (a.1.set p.2 (stepL p.1 a.2 (nth a.1 p.2))) i).length = _
    rw [nth_set (by rw [h]; exact hp)]
    by_cases e : p.2 = i
    · rw [if_pos e, if_pos e, stepL_len, e]
      have : prodS (p :: stepsAt i st) = p.1 * prodS (stepsAt i st) := by unfold prodS; rw [List.map_cons, List.prod_cons]
      rw [this]; simp only [Nat.mul_assoc, Nat.mul_left_comm, Nat.mul_comm]
    · rw [if_neg e, if_neg e]
theorem nth_replicate {α : Type} [Inhabited α] {m i : Nat} {a : α} (h : i < m) : nth (List.replicate m a) i = a := by
  unfold nth; rw [List.getD_eq_getElem?_getD, List.getElem?_replicate, if_pos h]; rfl
theorem built_len {m i : Nat} {st : List (Nat × Nat)} (hi : i < m) (h : ∀ p ∈ st, p.2 < m) : (nth (builtL st m).1 i).length = prodS (stepsAt i st) := by
  unfold builtL
  rw [foldl_len (m := m) (by simp) h, nth_replicate hi]; simp
theorem mem_nth {α : Type} [Inhabited α] {l : List α} {a : α} (h : a ∈ l) : ∃ i, i < l.length ∧ nth l i = a := by
  obtain ⟨i, hi, e⟩ := List.getElem_of_mem h
  exact ⟨i, hi, by unfold nth; rw [List.getD_eq_getElem?_getD, List.getElem?_eq_getElem hi]; exact e⟩
/-- each list of a ladder of few steps -/
theorem built_each {m q : Nat} {st : List (Nat × Nat)} (h : StepsOk m st) (hq : ∀ p ∈ st, p.1 ≤ q) (hq1 : 1 ≤ q) {l : List Int} (hl : l ∈ (builtL st m).1) : l.length ≤ q ^ ((st.length + 1) / 2) := by
  obtain ⟨i, hi, rfl⟩ := mem_nth hl
  rw [(built_ok h.1).len] at hi
  rw [built_len hi fun p hp => (h.1 p hp).2]
  refine Nat.le_trans (prodS_le fun p hp => hq p (List.mem_filter.mp hp).1) (Nat.pow_le_pow_right hq1 ?_)
  have := stepsAt_half (i := i) h.2
  omega
/-! ### moved -/
theorem Paired.mem {α β : Type} {R : α → β → Prop} : ∀ {xs : List α} {ys : List β}, Paired R xs ys → ∀ y ∈ ys, ∃ x ∈ xs, R x y
  | _, _, .nil, y, h => absurd h (by simp)
  | _, _, .cons (a := a) h1 h2, y, h => by
    rcases List.mem_cons.mp h with rfl | h
    · exact ⟨a, List.mem_cons_self .., h1⟩
    · obtain ⟨x, hx, hr⟩ := Paired.mem h2 y h
      exact ⟨x, List.mem_cons_of_mem _ hx, hr⟩
theorem paired_size {R : List Int → List Int → Prop} (k : ∀ a b, R a b → b.length = a.length) : ∀ {xs ys : List (List Int)}, Paired R xs ys → sizeL ys = sizeL xs
  | _, _, .nil => rfl
  | _, _, .cons h1 h2 => by
    have ih := paired_size k h2
    unfold sizeL at *
    rw [List.map_cons, List.map_cons, List.prod_cons, List.prod_cons, ih, k _ _ h1]
theorem asc_add {l : List Int} {d : Int} (h : Asc l) : Asc (l.map fun x => x + d) := List.pairwise_map.mpr (h.imp fun h => by omega)
theorem sizeL_set_le : ∀ {ls : List (List Int)} {i : Nat} {l : List Int}, i < ls.length → l.length ≤ (nth ls i).length → sizeL (ls.set i l) ≤ sizeL ls
  | [], _, _, hi, _ => by simp at hi
  | a :: ls, 0, l, _, h => by
    unfold sizeL; simp only [List.set_cons_zero, List.map_cons, List.prod_cons]; exact Nat.mul_le_mul_right _ h
  | a :: ls, i + 1, l, hi, h => by
    have := sizeL_set_le (ls := ls) (i := i) (l := l) (by simpa using hi) h
    unfold sizeL at *; simp only [List.set_cons_succ, List.map_cons, List.prod_cons]; exact Nat.mul_le_mul_left _ this
theorem take_set {α : Type} : ∀ {l : List α} {i : Nat} {a : α}, i < l.length → l.take i ++ a :: l.drop (i + 1) = l.set i a
  | [], _, _, h => by simp at h
  | b :: l, 0, a, _ => rfl
  | b :: l, i + 1, a, h => by
    rw [List.take_succ_cons, List.drop_succ_cons, List.cons_append, take_set (by simpa using h)]; rfl
theorem sizeL_le {q : Nat} : ∀ {ls : List (List Int)}, (∀ l ∈ ls, l.length ≤ q) → sizeL ls ≤ q ^ ls.length
  | [], _ => by simp [sizeL]
  | a :: ls, h => by
    have ih := sizeL_le (q := q) (ls := ls) fun r hr => h r (List.mem_cons_of_mem _ hr)
    have : sizeL (a :: ls) = a.length * sizeL ls := by unfold sizeL; rw [List.map_cons, List.prod_cons]
    rw [this, List.length_cons, Nat.pow_succ, Nat.mul_comm]
    exact Nat.mul_le_mul ih (h a (List.mem_cons_self ..))


--@use lot2
/-- an instance of Lot -/
abbrev dLot (ls : List (List Int)) : D := .ins (Str.ofString "Lot") [(Str.ofString "kept", tL ls)]
theorem LotOk.isList {ls : List (List Int)} (h : LotOk ls) {ns : List Int} (hn : ns ∈ ls) : isListI ns = true := decide_eq_true ⟨(h.2 ns hn).1, (h.2 ns hn).2.1, (h.2 ns hn).2.2⟩
theorem list_ok {ns : List Int} (h : isListI ns = true) : ns ≠ [] ∧ ns.length ≤ 40 ∧ Asc ns := of_decide_eq_true h
theorem LotOk.app {ls : List (List Int)} (h : LotOk ls) {ns : List Int} (hn : isListI ns = true) (hl : ls.length < 6) : LotOk (ls ++ [ns]) :=
  ⟨by rw [List.length_append, List.length_singleton]; omega, fun l hl => by
    rcases List.mem_append.mp hl with hl | hl
    · exact h.2 l hl
    · rw [List.mem_singleton.mp hl]; exact list_ok hn⟩
theorem LotOk.set {ls : List (List Int)} (h : LotOk ls) {ns : List Int} (hn : isListI ns = true) (i : Nat) : LotOk (ls.set i ns) :=
  ⟨by rw [List.length_set]; exact h.1, fun l hl => by
    rcases mem_set_or hl with rfl | hl
    · exact list_ok hn
    · exact h.2 l hl⟩

theorem forL_findE {α : Type} {step : α → Sl → MS} {l : List α} {ρ : Sl} (f : List α → Sl) (p : α → Bool) (r : α → MS) (e : ρ = f []) (hr : ∀ a k, bindL (r a) k = r a) (h : ∀ pre a post, l = pre ++ a :: post → (∀ x ∈ pre, p x = false) → step a (f pre) = if p a = true then r a else nx (f (pre ++ [a]))) :
    forL step l ρ = match l.find? p with
      | some a => r a
      | none => nx (f l) := by rw [e]; exact forL_find f p r hr h

--@use lotd while
def intE : D → Int
  | .int i => i
  | _ => 0
/-- a list of numbers, or not -/
def listD : D → Bool
  | .tup ds => ds.all D.isI && isListI (ds.map intE)
  | _ => false
structure El (e : D) : Prop where
  kn : e.known = true
  el : ∀ ds, e = .tup ds → ds.length ≤ 400 ∧ ∀ x ∈ ds, x.known = true ∧ EqOk 58 x
  eq : EqOk 59 e
/-- what is_list may be asked of -/
structure Ls (e : D) : Prop where
  kn : e.known = true
  el : ∀ ds, e = .tup ds → ds.length ≤ 400 ∧ ∀ x ∈ ds, x.known = true ∧ EqOk 58 x
theorem El.ls {e : D} (h : El e) : Ls e := ⟨h.kn, h.el⟩
structure ValD (d : D) : Prop where
  kn : d.known = true
  el : ∀ ds, d = .tup ds → ds.length ≤ 400 ∧ ∀ e ∈ ds, El e
theorem isT_tupE {d : D} (h : d.isT = true) : ∃ ds, d = .tup ds := by cases d <;> first | (cases h; done) | exact ⟨_, rfl⟩
theorem El.tup {ds : List D} (hl : ds.length ≤ 400) (h : ∀ x ∈ ds, x.known = true ∧ EqOk 58 x) : El (.tup ds) := ⟨rfl, fun es e => by injection e with e; subst e; exact ⟨hl, h⟩, by rw [eqOk_tup (n := 58)]; exact fun x hx => (h x hx).2⟩
theorem El.other {d : D} (h1 : d.known = true) (h2 : d.isT = false) (h3 : EqOk 59 d) : El d := ⟨h1, fun es e => (by subst e; cases h2), h3⟩
theorem ValD.tup {ds : List D} (hl : ds.length ≤ 400) (h : ∀ x ∈ ds, El x) : ValD (.tup ds) := ⟨rfl, fun es e => by injection e with e; subst e; exact ⟨hl, h⟩⟩
theorem ValD.other {d : D} (h1 : d.known = true) (h2 : d.isT = false) : ValD d := ⟨h1, fun es e => by subst e; cases h2⟩
theorem El.ints {ns : List Int} (h : ns.length ≤ 400) : El (tI ns) := .tup (by rw [List.length_map]; exact h) fun x hx => by
  obtain ⟨i, _, rfl⟩ := List.mem_map.mp hx
  exact ⟨rfl, eqOk_int⟩
theorem ints_all {ds : List D} (h : ds.all D.isI = true) : ds = (ds.map intE).map .int := by
  rw [List.map_map]
  conv => lhs; rw [← List.map_id ds]
  apply List.map_congr_left
  intro x hx
  have := List.all_eq_true.mp h x hx
  cases x <;> first | rfl | cases this
/-- the index of what is wrong with lists -/
def slipF : Option Nat → Option D
  | some k => some (.int (k : Nat))
  | none => none
def slipI : D → Option D
  | .tup [] => some .non
  | .tup ds => slipF ((List.range ds.length).find? fun k => decide (k = 6) || !listD (nth ds k))
  | _ => some .non
theorem slipI_no {d : D} (h : d.isT = false) : slipI d = some .non := by cases d <;> first | rfl | cases h
theorem slipI_tup {ds : List D} (h : ds ≠ []) : slipI (.tup ds) = slipF ((List.range ds.length).find? fun k => decide (k = 6) || !listD (nth ds k)) := by
  cases ds with
  | nil => exact absurd rfl h
  | cons a l => rfl
theorem l_eqT0E {ds : List D} (h : EqOk 60 (.tup ds)) : M.lift (fEq (.tup ds) (.tup [])) = M.one (.d (.bl (decide (ds = [])))) := lift_one fun R => by
  unfold fEq
  rw [cmpOk_of (n := 60) h (by simp [eqOk_tup (n := 59)]) (by decide)]
  cases ds <;> simp [D.eqb, D.py, D.pys, PyData.eqv, PyData.eqvAll]
theorem l_neL0E {ds : List D} (h : EqOk 60 (.lst ds)) : M.lift (fNe (.lst ds) (.lst [])) = M.one (.d (.bl (!decide (ds = [])))) := lift_one fun R => by
  unfold fNe
  rw [cmpOk_of (n := 60) h (by simp [eqOk_lst (n := 59)]) (by decide)]
  cases ds <;> simp [D.eqb, D.py, D.pys, PyData.eqv, PyData.eqvAll]
theorem l_eqL0E {ds : List D} (h : EqOk 60 (.lst ds)) : M.lift (fEq (.lst ds) (.lst [])) = M.one (.d (.bl (decide (ds = [])))) := lift_one fun R => by
  unfold fEq
  rw [cmpOk_of (n := 60) h (by simp [eqOk_lst (n := 59)]) (by decide)]
  cases ds <;> simp [D.eqb, D.py, D.pys, PyData.eqv, PyData.eqvAll]
theorem slip_good {d : D} (h : slipI d = none) : ∃ ls : List (List Int), d = tL ls ∧ LotOk ls := by
  cases ht : d.isT with
  | false => rw [slipI_no ht] at h; cases h
  | true =>
    obtain ⟨ds, rfl⟩ := isT_tupE ht
    by_cases hne : ds = []
    · subst hne; cases h
    · rw [slipI_tup hne] at h
      cases hf : (List.range ds.length).find? fun k => decide (k = 6) || !listD (nth ds k) with
      | some k => rw [hf] at h; cases h
      | none =>
        have hk := List.find?_eq_none.mp hf
        have hg : ∀ k (q : k < ds.length), listD ds[k] = true := fun k q => by
          have := hk k (List.mem_range.mpr q)
          rw [nth_lt q] at this
          simp at this
          exact this.2
        have hl : ds.length ≤ 6 := by
          rcases Nat.lt_or_ge 6 ds.length with q | q
          · have := hk 6 (List.mem_range.mpr q)
            simp at this
          · exact q
        have : ∀ (es : List D), (∀ e ∈ es, listD e = true) → ∃ ls : List (List Int), es = ls.map tI ∧ ∀ l ∈ ls, isListI l = true := fun es => by
          induction es with
          | nil => intro _; exact ⟨[], rfl, fun f h => absurd h (by simp)⟩
          | cons e es ih =>
            intro h
            obtain ⟨ls, rfl, hb⟩ := ih fun x hx => h x (List.mem_cons_of_mem _ hx)
            have he := h e (List.mem_cons_self ..)
            cases e <;> first | (cases he; done) | skip
            rename_i xs
            have he : (xs.all D.isI && isListI (xs.map intE)) = true := he
            rw [Bool.and_eq_true] at he
            refine ⟨xs.map intE :: ls, ?_, fun c hc => (List.mem_cons.mp hc).elim (fun z => by rw [z]; exact he.2) (hb c)⟩
            rw [List.map_cons]
            congr 1
            show D.tup xs = .tup ((xs.map intE).map .int)
            rw [← ints_all he.1]
        obtain ⟨ls, rfl, hb⟩ := this ds fun e he => by
          obtain ⟨k, q, rfl⟩ := List.getElem_of_mem he
          exact hg k q
        rw [List.length_map] at hl
        refine ⟨ls, rfl, ⟨?_, hl⟩, fun l hl2 => list_ok (hb l hl2)⟩
        rcases ls with _ | ⟨b, bs⟩
        · exact absurd rfl hne
        · simp


/-- is_list(value); slots: 0 value, 1 number, 2 k -/
def b_is_list : SM := (mSeq (mIf (mOr (mNot (mB (mCallB fIsi (mCons (mVar 0) (mCons (mC (.v (.ty "tuple"))) mNil))))) (mNot (mB (mChain fLe fLe (mC (.int 1)) (mCallB fLen (mCons (mVar 0) mNil)) (mC (.int 40)))))) (mRet (mC (.bl false))) mNext)
  (mSeq (mIf (mNot (mB (mCallB fAll (mCons (mLc (mItems (mVar 0)) (fName 1) mYes (mCall 1 f_is_integer (mCons (mVar 1) mNil)) [1]) mNil)))) (mRet (mC (.bl false))) mNext)
  (mRet (mCallB fAll (mCons (mLc (mRng rg1 (mCons (mBin fSub (mCallB fLen (mCons (mVar 0) mNil)) (mC (.int 1))) mNil)) (fName 2) mYes (mBin fLt (mIxV 0 (mVar 2)) (mIxV 0 (mBin fAdd (mVar 2) (mC (.int 1))))) [2]) mNil)))))
def f_is_list : FM := defM b_is_list [(Str.ofString "value"), (Str.ofString "number"), (Str.ofString "k")]
--@use asc vald
@[simp] theorem is_list_tI {ns : List Int} : f_is_list [tI ns] = val (.d (.bl (isListI ns))) := by
  (conv => { lhs; simp -implicitDefEqProofs [l_neSelf, l_eqSelf, key_int, key_str, keyD, defM, initM, tail_mapS, take_mapS, drop_mapS, sl0, slI, lcAll_map, lcAll_rng, forL_map, forL_rng, -List.map_take, -List.map_drop, -List.map_tail, -List.map_reverse, f_is_list, b_is_list] })
  by_cases h : 1 ≤ ns.length ∧ ns.length ≤ 40
  · rw [if_neg (by omega), req_of (by walk_at "side")]
    have h2 : ns ≠ [] := by intro z; subst z; simp at h
    refine val_bl ?_
    simp only [List.all_eq_true, List.mem_range, decide_eq_true_eq, asc_iff]
    exact ⟨fun q => ⟨h2, h.2, fun k hk => q k (by omega)⟩, fun q k hk => q.2.2 k (by omega)⟩
  · rw [if_pos (by omega)]
    refine val_bl ?_
    simp only [Bool.false_eq_true, decide_eq_true_eq, false_iff]
    rintro ⟨h1, h2, -⟩
    have := List.length_pos_iff.mpr h1
    omega
theorem is_list_gen {e : D} (h : Ls e) : f_is_list [e] = val (.d (.bl (listD e))) := by
  have hk := h.kn
  cases ht : e.isT with
  | false =>
    have eb : listD e = false := by cases e <;> first | rfl | cases ht
    rw [eb]
    (conv => { lhs; simp -implicitDefEqProofs [l_neSelf, l_eqSelf, key_int, key_str, keyD, defM, initM, tail_mapS, take_mapS, drop_mapS, sl0, slI, lcAll_map, lcAll_rng, forL_map, forL_rng, -List.map_take, -List.map_drop, -List.map_tail, -List.map_reverse, f_is_list, b_is_list, l_isi_tup hk, ht] })
  | true =>
    obtain ⟨ds, rfl⟩ := isT_tupE ht
    obtain ⟨hl, he⟩ := h.el ds rfl
    cases ha : ds.all D.isI with
    | true =>
      have eb : listD (.tup ds) = isListI (ds.map intE) := by show (ds.all D.isI && _) = _; rw [ha, Bool.true_and]
      rw [eb]
      have e1 := is_list_tI (ns := ds.map intE)
      have e2 : tI (ds.map intE) = .tup ds := by show D.tup ((ds.map intE).map .int) = _; rw [← ints_all ha]
      rw [e2] at e1
      exact e1
    | false =>
      have eb : listD (.tup ds) = false := by show (ds.all D.isI && _) = _; rw [ha, Bool.false_and]
      rw [eb]
      have hc : lcAll (lcT (fName 1) mYes (mCall 1 f_is_integer (mCons (mVar 1) mNil)) [some (.d (.tup ds)), none, none]) ds = M.one (ds.map fun a => .bl a.isI) := by
        refine (lcAll_congr (step' := fun a => M.one [.bl a.isI]) fun a ha => ?_).trans lcAll_one1
        (conv => { lhs; simp -implicitDefEqProofs [l_neSelf, l_eqSelf, key_int, key_str, keyD, defM, initM, tail_mapS, take_mapS, drop_mapS, sl0, slI, lcAll_map, lcAll_rng, forL_map, forL_rng, -List.map_take, -List.map_drop, -List.map_tail, -List.map_reverse, is_integer_eq (he a ha).1] })
      have hall : M.lift (fAll [.lst (ds.map fun a => .bl a.isI)]) = M.one (.d (.bl false)) := by rw [l_allM (p := D.isI), ha]
      (conv => { lhs; simp -implicitDefEqProofs [l_neSelf, l_eqSelf, key_int, key_str, keyD, defM, initM, tail_mapS, take_mapS, drop_mapS, sl0, slI, lcAll_map, lcAll_rng, forL_map, forL_rng, -List.map_take, -List.map_drop, -List.map_tail, -List.map_reverse, f_is_list, b_is_list] })
      by_cases c1 : 1 ≤ ds.length ∧ ds.length ≤ 40
      · rw [if_neg (by omega), req_of (by omega), hc]
        (conv => { lhs; simp -implicitDefEqProofs [l_neSelf, l_eqSelf, key_int, key_str, keyD, defM, initM, tail_mapS, take_mapS, drop_mapS, sl0, slI, lcAll_map, lcAll_rng, forL_map, forL_rng, -List.map_take, -List.map_drop, -List.map_tail, -List.map_reverse, hall] })
      · rw [if_pos (by omega)]

/-- check_lists(lists); slots: 0 lists, 1 index -/
def b_check_lists : SM := (mSeq (mIf (mOr (mNot (mB (mCallB fIsi (mCons (mVar 0) (mCons (mC (.v (.ty "tuple"))) mNil))))) (mB (mBin fEq (mVar 0) (mTup mNil)))) (mRaise1 (Str.ofString "InvalidLists") (Str.ofString "index") (mC .non)) mNext)
  (mFor (mRng rg1 (mCons (mCallB fLen (mCons (mVar 0) mNil)) mNil)) (fName 1) (mIf (mOr (mB (mBin fEq (mVar 1) (mC (.int 6)))) (mNot (mB (mCall 1 f_is_list (mCons (mIxV 0 (mVar 1)) mNil))))) (mRaise1 (Str.ofString "InvalidLists") (Str.ofString "index") (mVar 1)) mNext) [1]))
def f_check_lists : FM := defM b_check_lists [(Str.ofString "lists"), (Str.ofString "index")]
--@use vald
theorem check_lists_eq {ls : List (List Int)} (h : LotOk ls) : f_check_lists [tL ls] = val (.d .non) := by
  have h0 : ls ≠ [] := fun e => by have := h.1.1; rw [e] at this; simp at this
  have h6 : ls.length ≤ 6 := h.1.2
  (conv => { lhs; simp -implicitDefEqProofs [l_neSelf, l_eqSelf, key_int, key_str, keyD, defM, initM, tail_mapS, take_mapS, drop_mapS, sl0, slI, lcAll_map, lcAll_rng, forL_map, forL_rng, -List.map_take, -List.map_drop, -List.map_tail, -List.map_reverse, f_check_lists, b_check_lists, h0] })
  rw [req_of (by omega)]
  rw [forL_range (fun _ => [some (.d (tL ls)), none]) rfl fun i hi => ?_]
  · rfl
  · have hl := h.isList (nth_in hi)
    simp -implicitDefEqProofs [l_neSelf, l_eqSelf, key_int, key_str, keyD, defM, initM, tail_mapS, take_mapS, drop_mapS, sl0, slI, lcAll_map, lcAll_rng, forL_map, forL_rng, -List.map_take, -List.map_drop, -List.map_tail, -List.map_reverse, hi, hl, show ¬ ((i : Int) = 6) by omega]
theorem check_lists_bad {d i : D} (h : ValD d) (n : slipI d = some i) : f_check_lists [d] = exn ⟨"InvalidLists", [("index", i)]⟩ := by
  suffices q : f_check_lists [d] = match slipI d with
    | none => val (.d .non)
    | some i => exn ⟨"InvalidLists", [("index", i)]⟩ by rw [q, n]
  have hk := h.kn
  cases ht : d.isT with
  | false =>
    rw [slipI_no ht]
    (conv => { lhs; simp -implicitDefEqProofs [l_neSelf, l_eqSelf, key_int, key_str, keyD, defM, initM, tail_mapS, take_mapS, drop_mapS, sl0, slI, lcAll_map, lcAll_rng, forL_map, forL_rng, -List.map_take, -List.map_drop, -List.map_tail, -List.map_reverse, f_check_lists, b_check_lists, l_isi_tup hk, ht] })
  | true =>
    obtain ⟨ds, rfl⟩ := isT_tupE ht
    obtain ⟨hl, he⟩ := h.el ds rfl
    have heq : EqOk 60 (.tup ds) := by rw [eqOk_tup (n := 59)]; exact fun e q => (he e q).eq
    have hq := l_eqT0E heq
    by_cases hne : ds = []
    · subst hne
      (conv => { lhs; simp -implicitDefEqProofs [l_neSelf, l_eqSelf, key_int, key_str, keyD, defM, initM, tail_mapS, take_mapS, drop_mapS, sl0, slI, lcAll_map, lcAll_rng, forL_map, forL_rng, -List.map_take, -List.map_drop, -List.map_tail, -List.map_reverse, f_check_lists, b_check_lists, hq] })
      rfl
    · rw [slipI_tup hne]
      (conv => { lhs; simp -implicitDefEqProofs [l_neSelf, l_eqSelf, key_int, key_str, keyD, defM, initM, tail_mapS, take_mapS, drop_mapS, sl0, slI, lcAll_map, lcAll_rng, forL_map, forL_rng, -List.map_take, -List.map_drop, -List.map_tail, -List.map_reverse, f_check_lists, b_check_lists, hq, hne] })
      rw [req_of (by omega)]
      rw [forL_findE (ρ := [some (.d (.tup ds)), none]) (fun pre : List Nat => [some (.d (.tup ds)), none]) (fun k => decide (k = 6) || !listD (nth ds k)) (fun k => ex ⟨"InvalidLists", [("index", .int k)]⟩ [some (.d (.tup ds)), some (.d (.int k))]) rfl (fun _ _ => rfl) fun pre k post e hp => ?_]
      · cases (List.range ds.length).find? fun k => decide (k = 6) || !listD (nth ds k) with
        | none => rfl
        | some k => rfl
      · have hk : k < ds.length := by
          have := List.mem_range.mp (show k ∈ List.range ds.length by rw [e]; simp)
          exact this
        have hx := he _ (nth_mem hk)
        have hix : ixM ds (k : Int) = M.one (.d (nth ds k)) := ixM_some (L2.atI_nat (nth_some hk))
        have hbx := is_list_gen hx.ls
        have hrp : True := trivial
        generalize nth ds k = x at *
        by_cases c : k = 6
        · subst c
          simp -implicitDefEqProofs [l_neSelf, l_eqSelf, key_int, key_str, keyD, defM, initM, tail_mapS, take_mapS, drop_mapS, sl0, slI, lcAll_map, lcAll_rng, forL_map, forL_rng, -List.map_take, -List.map_drop, -List.map_tail, -List.map_reverse, hix, l_repr, hrp]
        · have c' : ¬ (k : Int) = 6 := by omega
          simp -implicitDefEqProofs [l_neSelf, l_eqSelf, key_int, key_str, keyD, defM, initM, tail_mapS, take_mapS, drop_mapS, sl0, slI, lcAll_map, lcAll_rng, forL_map, forL_rng, -List.map_take, -List.map_drop, -List.map_tail, -List.map_reverse, hix, c, c', hbx, l_repr, hrp]

theorem showLenW (i : Int) (h : (Nat.toDigits 10 i.natAbs).length ≤ 121) : (Str.ofString (toString i)).length ≤ 124 := by
  have nat : ∀ m : Nat, (Nat.toDigits 10 m).length ≤ 121 → (Str.ofString (toString (Int.ofNat m))).length ≤ 121 := fun m hm => by
    rw [PyProof.Rows.ofString_len]
    show (Nat.repr m).length ≤ 121
    simpa [Nat.repr] using hm
  by_cases z : i < 0
  · rw [PyProof.Rows.len_text_neg z]
    have e : (0 : Int) - i = Int.ofNat i.natAbs := by simp; omega
    have := nat i.natAbs h
    rw [e]; omega
  · have e : i = Int.ofNat i.natAbs := by simp; omega
    have := nat i.natAbs h
    rw [← e] at this; omega

--@use lotd
theorem strOk_of (s : String) : PyData.strOk (Str.ofString s) = true := by
  rw [Str.ofString_eq_toList]
  unfold PyData.strOk
  simp
  intro x _
  have := x.valid
  rcases this with h | h
  · exact Nat.lt_trans h (by decide)
  · exact h.2

--@use sok
theorem strOk_app {a b : Str} (h : PyData.strOk a = true) (h' : PyData.strOk b = true) : PyData.strOk (a ++ b) = true := by
  show (a.cps ++ b.cps).all _ = true
  rw [Array.all_append, Bool.and_eq_true]
  exact ⟨h, h'⟩
theorem strOk_join {sep : Str} (hs : PyData.strOk sep = true) : ∀ {ss : List Str}, (∀ s ∈ ss, PyData.strOk s = true) → PyData.strOk (Str.join sep ss) = true
  | [], _ => strOk_of ""
  | [a], h => h a (List.mem_cons_self ..)
  | a :: b :: r, h => strOk_app (strOk_app (h a (List.mem_cons_self ..)) hs) (strOk_join hs fun s q => h s (List.mem_cons_of_mem _ q))

--@use lot2 wide sok2
/-- a number, a list, a lot as a text -/
def numS (n : Int) : Str := Str.ofString (toString n)
def lineS (l : List Int) : Str := Txt.join (Str.ofString " ") (l.map numS)
def pageS (ls : List (List Int)) : Str := Txt.join (Str.ofString "\n") (ls.map lineS)
theorem numS_len {n : Int} (h : n.natAbs < 2 ^ 400) : (numS n).length ≤ 124 := showLenW n (PyProof.Rows.digits10_le (by decide) (Nat.lt_of_lt_of_le h (by decide +kernel)))
theorem log_lt {n : Int} {k : Nat} (h : n.natAbs < 2 ^ k) (hk : k ≤ 1920) : n.natAbs.log2 < 1920 := by
  by_cases z : n.natAbs = 0
  · rw [z]; decide
  · exact Nat.lt_of_lt_of_le ((Nat.log2_lt z).mpr h) hk
theorem joinL_len (S : List Nat) : ∀ ps : List (List Nat), (TL.joinL S ps).length ≤ (ps.map (·.length)).sum + ps.length * S.length
  | [] => Nat.zero_le _
  | [p] => by
    show p.length ≤ _
    rw [List.map_singleton, List.sum_singleton]; omega
  | p :: q :: r => by
    have ih := joinL_len S (q :: r)
    show (p ++ (S ++ TL.joinL S (q :: r))).length ≤ _
    rw [List.length_append, List.length_append, List.map_cons, List.sum_cons, List.length_cons (a := p), Nat.succ_mul]
    omega
theorem join_len (y : Str) (ps : List Str) : (Txt.join y ps).length ≤ (ps.map (·.length)).sum + ps.length * y.length := by
  rw [TL.join_eq, TL.len_tl, TL.tl_join]
  refine Nat.le_trans (joinL_len _ _) (Nat.le_of_eq ?_)
  rw [List.map_map, List.length_map, ← TL.len_tl]
  congr 2
theorem sum_le {α : Type} {f : α → Nat} {b : Nat} : ∀ {l : List α}, (∀ x ∈ l, f x ≤ b) → (l.map f).sum ≤ l.length * b
  | [], _ => Nat.zero_le _
  | a :: l, h => by
    rw [List.map_cons, List.sum_cons, List.length_cons, Nat.succ_mul]
    have h1 := h a (List.mem_cons_self ..)
    have h2 := sum_le fun x hx => h x (List.mem_cons_of_mem _ hx)
    omega
/-- all numbers are of at most so many bits -/
def Bits4 (ls : List (List Int)) : Prop := ∀ l ∈ ls, ∀ x ∈ l, x.natAbs < 2 ^ 400
theorem line_sum {l : List Int} (h : ∀ x ∈ l, x.natAbs < 2 ^ 400) : ((l.map numS).map (·.length)).sum ≤ l.length * 124 := by
  rw [List.map_map]
  exact sum_le fun x hx => numS_len (h x hx)
theorem sp_len : (Str.ofString " ").length = 1 := by decide +kernel
theorem nl_len : (Str.ofString "\n").length = 1 := by decide +kernel
theorem lineS_len {l : List Int} (h : ∀ x ∈ l, x.natAbs < 2 ^ 400) : (lineS l).length ≤ l.length * 125 := by
  have a := join_len (Str.ofString " ") (l.map numS)
  have b := line_sum h
  rw [List.length_map, sp_len] at a
  unfold lineS; omega
theorem page_sum {ls : List (List Int)} (h : Bits4 ls) (hl : ∀ l ∈ ls, l.length ≤ 40) : ((ls.map lineS).map (·.length)).sum ≤ ls.length * 5000 := by
  rw [List.map_map]
  exact sum_le fun x hx => by
    have := lineS_len (h x hx)
    have := hl x hx
    show (lineS x).length ≤ 5000
    omega
theorem pageS_len {ls : List (List Int)} (h : Bits4 ls) (hl : ∀ l ∈ ls, l.length ≤ 40) : (pageS ls).length ≤ ls.length * 5001 := by
  have a := join_len (Str.ofString "\n") (ls.map lineS)
  have b := page_sum h hl
  rw [List.length_map, nl_len] at a
  unfold pageS; omega
theorem hexc {n k x : Nat} (h : x ∈ List.replicate k 48 ++ (Nat.toDigits 16 n).map Char.toNat) : x < 0x110000 := by
  rcases List.mem_append.mp h with h | h
  · rw [(List.mem_replicate.mp h).2]; decide
  · obtain ⟨c, _, rfl⟩ := List.mem_map.mp h
    have := c.valid
    rcases this with q | q
    · exact Nat.lt_trans q (by decide)
    · exact q.2
theorem reprChar_lt {q c x : Nat} (hq : q < 0x110000) (hc : c < 0x110000) (h : x ∈ PySem.Builtin.Str.reprChar q c) : x < 0x110000 := by
  unfold PySem.Builtin.Str.reprChar at h
  dsimp only at h
  repeat' split at h
  all_goals first
    | (simp only [List.mem_cons, List.mem_nil_iff, or_false] at h; omega)
    | (rcases List.mem_append.mp h with h | h
       · simp only [List.mem_cons, List.mem_nil_iff, or_false] at h; omega
       · exact hexc h)
theorem repr_strOk {s : Str} (h : PyData.strOk s = true) : PyData.strOk (reprText s) = true := by
  have hs : ∀ c ∈ s.cps.toList, c < 0x110000 := fun c hc => by
    have := Array.all_eq_true'.mp h c (by simpa using hc)
    simpa using this
  have hq : reprQuote s < 0x110000 := by
    unfold reprQuote
    split <;> decide
  have key : ∀ (l : List Nat) (acc : Array Nat), (∀ c ∈ l, c < 0x110000) → (∀ x ∈ acc.toList, x < 0x110000) → ∀ x ∈ (l.foldl (fun out c => out ++ (PySem.Builtin.Str.reprChar (reprQuote s) c).toArray) acc).toList, x < 0x110000 := by
    intro l
    induction l with
    | nil => exact fun acc _ h => h
    | cons c l ih =>
      intro acc hl ha
      refine ih _ (fun d hd => hl d (List.mem_cons_of_mem _ hd)) fun x hx => ?_
      rw [Array.toList_append] at hx
      rcases List.mem_append.mp hx with hx | hx
      · exact ha x hx
      · exact reprChar_lt hq (hl c (List.mem_cons_self ..)) hx
  unfold PyData.strOk
  refine Array.all_eq_true'.mpr fun x hx => ?_
  unfold reprText at hx
  rw [← Array.foldl_toList] at hx
  rcases Array.mem_push.mp hx with hx | hx
  · have k := key s.cps.toList #[reprQuote s] hs fun y hy => by
      have : y = reprQuote s := by simpa using hy
      rw [this]; exact hq
    exact decide_eq_true (k x (Array.mem_toList_iff.mpr hx))
  · rw [hx]; exact decide_eq_true hq
theorem num_ok (n : Int) : PyData.strOk (numS n) = true := strOk_of _
theorem line_ok (l : List Int) : PyData.strOk (lineS l) = true := by
  unfold lineS
  rw [TL.join_eq]
  exact strOk_join (strOk_of _) fun s hs => by
    obtain ⟨n, _, rfl⟩ := List.mem_map.mp hs
    exact num_ok n
theorem page_ok (ls : List (List Int)) : PyData.strOk (pageS ls) = true := by
  unfold pageS
  rw [TL.join_eq]
  exact strOk_join (strOk_of _) fun s hs => by
    obtain ⟨n, _, rfl⟩ := List.mem_map.mp hs
    exact line_ok n
/-- a text that is not too long is shown -/
theorem str_repr {s : Str} (h : PyData.strOk s = true) (hl : s.length ≤ 1000000) : (D.str s).okRepr := by
  refine ⟨rfl, rfl, by show (PyData.str s).depth ≤ 60; simp [PyData.depth], ?_⟩
  show (reprText s).length ≤ sizeLine
  have := StrLaws.reprText_len s fun c hc => by
    have := Array.all_eq_true'.mp h c (by simpa using hc)
    have : c < 0x110000 := by simpa using this
    omega
  have e : sizeLine = 16777216 := rfl
  omega


--@use lotd
def getI (m : List (Int × Int)) (k : Int) : Option Int := (m.find? fun p => decide (p.1 = k)).map (·.2)
theorem valD_I {m : List (Int × Int)} {k : Int} : valD (dI m) (.inl k) = (getI m k).map .int := by
  unfold valD getI dI
  rw [List.find?_map, Option.map_map, Option.map_map]
  congr 1
  congr 1
  funext p; simp
@[simp] theorem l_dGet {m : List (Int × Int)} {k : Int} : M.lift (dGet (.dic (dI m)) (.int k)) = optM (getI m k) fun v => M.one (.int v) := M.ext fun μ P => by
  rw [wp_lift]
  have e : ∀ R, dGet (.dic (dI m)) (.int k) R = ∃ v, (getI m k).map D.int = some v ∧ R v := fun R => by
    unfold dGet; rw [show (D.int k).key = some (.inl k) from rfl]; simp only [valD_I]
  cases hg : getI m k with
  | none => exact propext ⟨fun ⟨R, h, _⟩ => (by rw [e, hg] at h; obtain ⟨v, z, _⟩ := h; cases z), fun h => h.elim⟩
  | some v => exact propext ⟨fun ⟨R, h, r⟩ => by rw [e, hg] at h; obtain ⟨v', z, q⟩ := h; cases z; exact r _ q, fun h => ⟨fun a => P a μ, by rw [e, hg]; exact ⟨_, rfl, h⟩, fun _ q => q⟩⟩
@[simp] theorem l_dGetE {m : List (Int × Int)} {k z : Int} : M.lift (dGetE (.dic (dI m)) (.int k) (.int z)) = M.one (.int ((getI m k).getD z)) := lift_one fun R => by
  unfold dGetE; rw [show (D.int k).key = some (.inl k) from rfl]; simp only [valD_I]
  cases getI m k <;> rfl
/-- None or an integer -/
def oI : Option Int → D
  | none => .non
  | some i => .int i
@[simp] theorem oI_none : oI none = .non := rfl
@[simp] theorem oI_some {i : Int} : oI (some i) = .int i := rfl
@[simp] theorem l_isOI {o : Option Int} : M.lift (fIs (oI o)) = M.one (.d (.bl o.isNone)) := by cases o <;> simp [oI]
@[simp] theorem l_isnOI {o : Option Int} : M.lift (fIsn (oI o)) = M.one (.d (.bl o.isSome)) := by cases o <;> simp [oI]

--@use text tab
/-! ### words that tell a number -/
theorem tl_eq {a b : Str} : a = b ↔ TL.tl a = TL.tl b := ⟨fun h => by rw [h], TL.ext_tl⟩
theorem tl_hi {w : Str} {i : Int} (h : 0 ≤ i) : TL.tl (cutS w none (some i)) = (TL.tl w).take i.toNat := by
  have e : TL.tl (cutS w none (some i)) = (((TL.tl w).drop (HT.sIx w.length 0 none)).take (HT.sIx w.length w.length (some i) - HT.sIx w.length 0 none)) := rfl
  rw [e, HT.sIx_none, sIx_int h, List.drop_zero, Nat.sub_zero, TL.len_tl]
  rcases Nat.le_total i.toNat (TL.tl w).length with q | q
  · rw [Nat.min_eq_left q]
  · rw [Nat.min_eq_right q, List.take_of_length_le (Nat.le_refl _), List.take_of_length_le q]
theorem tl_lo {w : Str} {i : Int} (h : 0 ≤ i) : TL.tl (cutS w (some i) none) = (TL.tl w).drop i.toNat := by
  have e : TL.tl (cutS w (some i) none) = (((TL.tl w).drop (HT.sIx w.length 0 (some i))).take (HT.sIx w.length w.length none - HT.sIx w.length 0 (some i))) := rfl
  rw [e, HT.sIx_none, sIx_int h, TL.len_tl]
  rcases Nat.le_total i.toNat (TL.tl w).length with q | q
  · rw [Nat.min_eq_left q, List.take_of_length_le (by rw [List.length_drop]; exact Nat.le_refl _)]
  · rw [Nat.min_eq_right q, List.drop_of_length_le q, List.drop_of_length_le (Nat.le_refl _), List.take_nil]
theorem ok_tl {s : Str} : PyData.strOk s = true ↔ ∀ c ∈ TL.tl s, c < 0x110000 := by
  unfold PyData.strOk
  rw [Array.all_eq_true']
  exact ⟨fun h c hc => of_decide_eq_true (h c (Array.mem_toList_iff.mp hc)), fun h c hc => decide_eq_true (h c (Array.mem_toList_iff.mpr hc))⟩
theorem ok_hi {w : Str} {i : Int} (h : 0 ≤ i) (hw : PyData.strOk w = true) : PyData.strOk (cutS w none (some i)) = true := by
  rw [ok_tl] at hw ⊢
  rw [tl_hi h]
  exact fun c hc => hw c (List.mem_of_mem_take hc)
theorem ok_lo {w : Str} {i : Int} (h : 0 ≤ i) (hw : PyData.strOk w = true) : PyData.strOk (cutS w (some i) none) = true := by
  rw [ok_tl] at hw ⊢
  rw [tl_lo h]
  exact fun c hc => hw c (List.mem_of_mem_drop hc)
theorem beqS {a b : Str} : (a == b) = decide (a = b) := by
  by_cases c : a = b
  · subst c; simp
  · rw [decide_eq_false c]; exact beq_eq_false_iff_ne.mpr c
theorem eqS {a b : Str} (ha : PyData.strOk a = true) (hb : PyData.strOk b = true) : M.lift (fEq (.str a) (.str b)) = M.one (.d (.bl (decide (a = b)))) := lift_one fun R => by
  unfold fEq
  rw [cmpOk_of (n := 60) (by rw [eqOk_str]; exact ha) (by rw [eqOk_str]; exact hb) (by decide)]
  simp only [D.eqb, D.py, PyData.eqv, beqS, true_and]
theorem neS {a b : Str} (ha : PyData.strOk a = true) (hb : PyData.strOk b = true) : M.lift (fNe (.str a) (.str b)) = M.one (.d (.bl (!decide (a = b)))) := lift_one fun R => by
  unfold fNe
  rw [cmpOk_of (n := 60) (by rw [eqOk_str]; exact ha) (by rw [eqOk_str]; exact hb) (by decide)]
  simp only [D.eqb, D.py, PyData.eqv, beqS, true_and]
theorem l_ix0 {s : Str} {c : Nat} {l : List Nat} (h : TL.tl s = c :: l) (hl : s.length ≤ sizeLine) : M.lift (fIx (.str s) (.int 0)) = M.one (.d (.str ⟨#[c]⟩)) := lift_one fun R => by
  unfold fIx
  have e : atI s.cps.toList 0 = some c := by
    have : s.cps.toList = c :: l := h
    rw [this]; exact L2.atI_nat (j := 0) rfl
  exact propext ⟨fun ⟨c', _, h1, h2⟩ => by rw [e] at h1; cases h1; exact h2, fun h => ⟨c, hl, e, h⟩⟩
def isDg (c : Nat) : Bool := decide (48 ≤ c ∧ c ≤ 57)
theorem dg_in (c : Nat) : decide (c ∈ (Str.ofString "0123456789").cps.toList) = isDg c := by
  have e : (Str.ofString "0123456789").cps.toList = [48, 49, 50, 51, 52, 53, 54, 55, 56, 57] := by decide +kernel
  rw [e]
  unfold isDg
  refine decide_eq_decide.mpr ?_
  simp only [List.mem_cons, List.mem_nil_iff, or_false]
  omega
def digW (w : Str) : List Nat := if (TL.tl w).take 1 = [45] then (TL.tl w).drop 1 else TL.tl w
def valW (w : Str) : Int := if (TL.tl w).take 1 = [45] then -(NumText.digitsVal (digW w) : Int) else (NumText.digitsVal (digW w) : Int)
/-- the number of a word, written as it is written -/
def numW (w : Str) : Option Int := if digW w ≠ [] ∧ (digW w).all isDg = true ∧ ¬ ((digW w).head? = some 48 ∧ TL.tl w ≠ [48]) then some (valW w) else none
theorem alld {l : List Nat} (h : l.all isDg = true) : NumText.AllDigits l := fun c hc => of_decide_eq_true (List.all_eq_true.mp h c hc)
theorem intW {w : Str} (h : digW w ≠ []) (h2 : (digW w).all isDg = true) (hl : w.length ≤ 4300) : intText? w = some (valW w) := by
  unfold valW
  unfold digW at h h2 ⊢
  by_cases c : (TL.tl w).take 1 = [45]
  · rw [if_pos c] at h h2
    rw [if_pos c, if_pos c]
    refine intText_neg (cs := (TL.tl w).drop 1) ?_ (alld h2) h hl
    show TL.tl w = _
    have := List.take_append_drop 1 (TL.tl w)
    rw [c] at this
    exact this.symm
  · rw [if_neg c] at h h2
    rw [if_neg c, if_neg c]
    exact intText_digits (alld h2) h hl


--@use num
theorem tl_numS (n : Int) : TL.tl (numS n) = if n < 0 then 45 :: TL.numL n.natAbs else TL.numL n.natAbs := by
  unfold numS
  cases n with
  | ofNat m =>
    rw [if_neg (by simp)]
    exact TL.tl_num m
  | negSucc m =>
    rw [if_pos (Int.negSucc_lt_zero m), TL.tl_ofString]
    have e : toString (Int.negSucc m) = "-" ++ Nat.repr (m + 1) := rfl
    rw [e, String.toList_append, List.map_append]
    have e2 : (Nat.repr (m + 1)).toList.map Char.toNat = TL.numL (m + 1) := by
      have := TL.tl_num (m + 1)
      rw [TL.tl_ofString] at this
      exact this
    rw [e2]; rfl
theorem headApp {l m : List Nat} (h : l ≠ []) : (l ++ m).head? = l.head? := by
  cases l with
  | nil => exact absurd rfl h
  | cons a l => rfl
theorem numL_head : ∀ m : Nat, (TL.numL m).head? = some 48 → m = 0 := fun m => by
  induction m using Nat.strongRecOn with
  | _ m ih =>
    intro h
    by_cases c : m < 10
    · rw [TL.numL_lt c] at h
      have : 48 + m = 48 := by injection h
      omega
    · rw [TL.numL_step (by omega), headApp (TL.numL_ne _)] at h
      have := ih (m / 10) (by omega) h
      omega
theorem numL_isDg (m : Nat) : (TL.numL m).all isDg = true := List.all_eq_true.mpr fun c hc => decide_eq_true (TL.numL_digits m c hc)
theorem numL_no45 (m : Nat) : ¬ (TL.numL m).take 1 = [45] := fun h => by
  have := TL.numL_digits m 45 (List.mem_of_mem_take (i := 1) (by rw [h]; simp))
  omega
theorem digW_num (n : Int) : digW (numS n) = TL.numL n.natAbs ∧ valW (numS n) = n := by
  unfold valW
  have e : digW (numS n) = TL.numL n.natAbs := by
    unfold digW
    rw [tl_numS]
    by_cases c : n < 0
    · rw [if_pos c, if_pos (by rfl)]; rfl
    · rw [if_neg c, if_neg (numL_no45 _)]
  refine ⟨e, ?_⟩
  rw [e, TL.numL_val, tl_numS]
  by_cases c : n < 0
  · rw [if_pos c, if_pos (by rfl)]; omega
  · rw [if_neg c, if_neg (numL_no45 _)]; omega
@[simp] theorem numW_num (n : Int) : numW (numS n) = some n := by
  obtain ⟨e1, e2⟩ := digW_num n
  unfold numW
  rw [e1, e2]
  refine if_pos ⟨TL.numL_ne _, numL_isDg _, fun ⟨h1, h2⟩ => h2 ?_⟩
  have z := numL_head _ h1
  have z : n = 0 := by omega
  subst z
  rw [tl_numS]
  decide
theorem canonL : ∀ (k : Nat) (l : List Nat), l.length = k → l ≠ [] → l.all isDg = true → ¬ (l.head? = some 48 ∧ l ≠ [48]) → l = TL.numL (NumText.digitsVal l)
  | 0, l, hk, hne, _, _ => absurd (List.length_eq_zero_iff.mp hk) hne
  | k + 1, l, hk, hne, ha, hz => by
    obtain ⟨l', c, rfl⟩ : ∃ l' c, l = l' ++ [c] := ⟨l.dropLast, l.getLast hne, (List.dropLast_concat_getLast hne).symm⟩
    have hc : isDg c = true := List.all_eq_true.mp ha c (by simp)
    have hc : 48 ≤ c ∧ c ≤ 57 := of_decide_eq_true hc
    have ha' : l'.all isDg = true := List.all_eq_true.mpr fun x hx => List.all_eq_true.mp ha x (List.mem_append_left _ hx)
    have ev : NumText.digitsVal (l' ++ [c]) = NumText.digitsVal l' * 10 + (c - 48) := by
      unfold NumText.digitsVal
      rw [List.foldl_append]; rfl
    rw [ev]
    by_cases c0 : l' = []
    · subst c0
      have : NumText.digitsVal [] = 0 := rfl
      rw [this, Nat.zero_mul, Nat.zero_add, TL.numL_lt (by omega)]
      show [c] = [48 + (c - 48)]
      congr 1; omega
    · have hh : ¬ (l'.head? = some 48 ∧ l' ≠ [48]) := fun ⟨h1, _⟩ => hz ⟨by rw [headApp c0]; exact h1, fun h => by
        have a := congrArg List.length h
        have b := List.length_pos_iff.mpr c0
        rw [List.length_append, List.length_singleton, List.length_singleton] at a
        omega⟩
      have hh2 : l'.head? ≠ some 48 := fun h1 => hz ⟨by rw [headApp c0]; exact h1, fun h => by
        have a := congrArg List.length h
        have b := List.length_pos_iff.mpr c0
        rw [List.length_append, List.length_singleton, List.length_singleton] at a
        omega⟩
      have ih := canonL k l' (by simpa using hk) c0 ha' hh
      have hv : 1 ≤ NumText.digitsVal l' := by
        rcases Nat.eq_zero_or_pos (NumText.digitsVal l') with z | z
        · rw [z] at ih
          exact absurd (by rw [ih]; rfl) hh2
        · exact z
      rw [TL.numL_step (by omega)]
      have e1 : (NumText.digitsVal l' * 10 + (c - 48)) / 10 = NumText.digitsVal l' := by omega
      have e2 : (NumText.digitsVal l' * 10 + (c - 48)) % 10 = c - 48 := by omega
      rw [e1, e2, ← ih]
      congr 2; omega
theorem numW_back {w : Str} {n : Int} (h : numW w = some n) : w = numS n := by
  unfold numW at h
  split at h
  · rename_i q
    injection h with h
    obtain ⟨q1, q2, q3⟩ := q
    rw [tl_eq, tl_numS]
    have hv : valW w = if (TL.tl w).take 1 = [45] then -(NumText.digitsVal (digW w) : Int) else (NumText.digitsVal (digW w) : Int) := rfl
    unfold digW at q1 q2 q3
    unfold digW at hv
    by_cases c : (TL.tl w).take 1 = [45]
    · rw [if_pos c] at q1 q2 q3
      rw [if_pos c, if_pos c] at hv
      have hw : TL.tl w = 45 :: (TL.tl w).drop 1 := by
        have := List.take_append_drop 1 (TL.tl w)
        rw [c] at this; exact this.symm
      have hno : ((TL.tl w).drop 1).head? ≠ some 48 := fun z => q3 ⟨z, by rw [hw]; simp⟩
      have k := canonL _ _ rfl q1 q2 fun z => hno z.1
      have hp : NumText.digitsVal ((TL.tl w).drop 1) ≠ 0 := fun z => by
        rw [z] at k
        exact hno (by rw [k]; rfl)
      rw [if_pos (by omega), hw]
      congr 1
      rw [k]
      congr 1
      omega
    · rw [if_neg c] at q1 q2 q3
      rw [if_neg c, if_neg c] at hv
      have k := canonL _ _ rfl q1 q2 q3
      rw [if_neg (by omega)]
      conv => lhs; rw [k]
      congr 1
      omega
  · cases h
/-- a text is cut as it was joined -/
theorem nums_free (n : Int) : 32 ∉ TL.tl (numS n) ∧ 10 ∉ TL.tl (numS n) := by
  rw [tl_numS]
  have a := TL.numL_free (n := n.natAbs) (s := 32) (.inl (by decide))
  have b := TL.numL_free (n := n.natAbs) (s := 10) (.inl (by decide))
  by_cases c : n < 0
  · rw [if_pos c]
    exact ⟨fun h => (List.mem_cons.mp h).elim (by decide) a, fun h => (List.mem_cons.mp h).elim (by decide) b⟩
  · rw [if_neg c]; exact ⟨a, b⟩
theorem mem_joinL {S : List Nat} {x : Nat} : ∀ {ps : List (List Nat)}, x ∈ TL.joinL S ps → x ∈ S ∨ ∃ p ∈ ps, x ∈ p
  | [], h => by cases h
  | [p], h => .inr ⟨p, List.mem_cons_self .., h⟩
  | p :: q :: r, h => by
    have h : x ∈ p ++ (S ++ TL.joinL S (q :: r)) := h
    rcases List.mem_append.mp h with h | h
    · exact .inr ⟨p, List.mem_cons_self .., h⟩
    · rcases List.mem_append.mp h with h | h
      · exact .inl h
      · rcases mem_joinL h with h | ⟨y, hy, h⟩
        · exact .inl h
        · exact .inr ⟨y, List.mem_cons_of_mem _ hy, h⟩
theorem line_free (l : List Int) : 10 ∉ TL.tl (lineS l) := fun h => by
  unfold lineS at h
  rw [TL.join_eq, TL.tl_join] at h
  rcases mem_joinL h with h | ⟨p, hp, h⟩
  · exact absurd h (by decide)
  · obtain ⟨s, hs, rfl⟩ := List.mem_map.mp hp
    obtain ⟨n, _, rfl⟩ := List.mem_map.mp hs
    exact (nums_free n).2 h
theorem split_line {l : List Int} (h : l ≠ []) : Txt.split (lineS l) (Str.ofString " ") = l.map numS :=
  TL.split_join (s := 32) (S := []) (by decide) (by decide +kernel) (by simpa using h) fun p hp => by
    obtain ⟨n, _, rfl⟩ := List.mem_map.mp hp
    exact (nums_free n).1
theorem split_page {ls : List (List Int)} (h : ls ≠ []) : Txt.split (pageS ls) (Str.ofString "\n") = ls.map lineS :=
  TL.split_join (s := 10) (S := []) (by decide) (by decide +kernel) (by simpa using h) fun p hp => by
    obtain ⟨n, _, rfl⟩ := List.mem_map.mp hp
    exact line_free n


/-- number_told(word); slots: 0 word, 1 digits, 2 figure -/
def b_number_told : SM := (mSeq (mSet 1 (mIfE (mB (mBin fEq (mSl (mVar 0) mNoP (mPart (mC (.int 1)))) (mC (.str (Str.ofString "-"))))) (mSl (mVar 0) (mPart (mC (.int 1))) mNoP) (mVar 0)))
  (mSeq (mIf (mOr (mB (mBin fEq (mVar 1) (mC (.str (Str.ofString ""))))) (mNot (mB (mCallB fAll (mCons (mLc (mChars (mVar 1)) (fName 2) mYes (mBin fInS (mVar 2) (mC (.str (Str.ofString "0123456789")))) [2]) mNil))))) (mRet (mC .non)) mNext)
  (mSeq (mIf (mAnd (mB (mBin fEq (mIxV 1 (mC (.int 0))) (mC (.str (Str.ofString "0"))))) (mB (mBin fNe (mVar 0) (mC (.str (Str.ofString "0")))))) (mRet (mC .non)) mNext)
  (mRet (mCallB fIntS (mCons (mVar 0) mNil))))))
def f_number_told : FM := defM b_number_told [(Str.ofString "word"), (Str.ofString "digits"), (Str.ofString "figure")]
--@use num2
theorem number_told_eq {w : Str} (hw : PyData.strOk w = true) (hl : w.length ≤ 640) : f_number_told [.str w] = val (.d (oI (numW w))) := by
  have o1 := ok_hi (i := 1) (by decide) hw
  have o2 := ok_lo (i := 1) (by decide) hw
  have q1 := eqS o1 (strOk_of "-")
  have hs : sizeLine = 16777216 := rfl
  have e1 : (cutS w none (some 1) = Str.ofString "-") = ((TL.tl w).take 1 = [45]) := propext (by rw [tl_eq, tl_hi (by decide)]; rfl)
  have main : ∀ d : Str, TL.tl d = digW w → PyData.strOk d = true → d.length ≤ 640 →
      (out (bindN (mSeq (mIf (mOr (mB (mBin fEq (mVar 1) (mC (.str (Str.ofString ""))))) (mNot (mB (mCallB fAll (mCons (mLc (mChars (mVar 1)) (fName 2) mYes (mBin fInS (mVar 2) (mC (.str (Str.ofString "0123456789")))) [2]) mNil))))) (mRet (mC .non)) mNext)
  (mSeq (mIf (mAnd (mB (mBin fEq (mIxV 1 (mC (.int 0))) (mC (.str (Str.ofString "0"))))) (mB (mBin fNe (mVar 0) (mC (.str (Str.ofString "0")))))) (mRet (mC .non)) mNext)
  (mRet (mCallB fIntS (mCons (mVar 0) mNil)))) [some (.d (.str w)), some (.d (.str d)), none]) nx)) = val (.d (oI (numW w))) := fun d hd ho hdl => by
    have hlen : (TL.tl d).length ≤ 640 := by rw [← TL.len_tl]; exact hdl
    have e0 : (d = Str.ofString "") = (digW w = []) := propext (by rw [tl_eq, hd]; rfl)
    by_cases c0 : digW w = []
    · have n0 : numW w = none := if_neg fun h => h.1 c0
      have c1 := e0.mpr c0
      rw [n0]
      (conv => { lhs; simp -implicitDefEqProofs [l_neSelf, l_eqSelf, key_int, key_str, keyD, defM, initM, tail_mapS, take_mapS, drop_mapS, sl0, slI, lcAll_map, lcAll_rng, forL_map, forL_rng, -List.map_take, -List.map_drop, -List.map_tail, -List.map_reverse, c1] })
      rfl
    · have c1 : ¬ d = Str.ofString "" := fun h => c0 (e0.mp h)
      obtain ⟨c, l, hc⟩ : ∃ c l, digW w = c :: l := List.exists_cons_of_ne_nil c0
      have hx := l_ix0 (s := d) (c := c) (l := l) (by rw [hd, hc]) (by omega)
      have hch : charsD d = (digW w).map fun c => D.str ⟨#[c]⟩ := by rw [← hd]; rfl
      have hzz : (⟨#[c]⟩ : Str) = Str.ofString "0" ↔ c = 48 := by
        rw [tl_eq]
        show [c] = [48] ↔ _
        simp
      have hw0 : w = Str.ofString "0" ↔ TL.tl w = [48] := by rw [tl_eq]; rfl
      rw [hd] at hlen
      have hin : ∀ x : Nat, (x ∈ (Str.ofString "0123456789").cps) ↔ isDg x = true := fun x => by
        have := dg_in x
        rw [← this]; simp
      by_cases ca : (digW w).all isDg = true
      · have hall : ∀ x, x ∈ digW w → isDg x = true := List.all_eq_true.mp ca
        have hE : ¬ ∃ x, x ∈ digW w ∧ ¬ x ∈ (Str.ofString "0123456789").cps := fun ⟨x, h1, h2⟩ => h2 ((hin x).mpr (hall x h1))
        have hi := l_intS (intW c0 ca (by omega)) hl
        by_cases cz : (digW w).head? = some 48 ∧ TL.tl w ≠ [48]
        · have n0 : numW w = none := if_neg fun h => h.2.2 cz
          have z1 : c = 48 := by have := cz.1; rw [hc] at this; injection this
          have z2 : ¬ w = Str.ofString "0" := fun h => cz.2 (hw0.mp h)
          have z3 := hzz.mpr z1
          rw [n0]
          (conv => { lhs; simp -implicitDefEqProofs [l_neSelf, l_eqSelf, key_int, key_str, keyD, defM, initM, tail_mapS, take_mapS, drop_mapS, sl0, slI, lcAll_map, lcAll_rng, forL_map, forL_rng, -List.map_take, -List.map_drop, -List.map_tail, -List.map_reverse, c1, hch, hE, hx, z3, z2] })
          rw [req_of (by omega)]
          rfl
        · have n0 : numW w = some (valW w) := if_pos ⟨c0, ca, cz⟩
          rw [n0]
          by_cases z1 : c = 48
          · have z2 : w = Str.ofString "0" := hw0.mpr (Classical.byContradiction fun h => cz ⟨by rw [hc, z1]; rfl, h⟩)
            have z3 := hzz.mpr z1
            (conv => { lhs; simp -implicitDefEqProofs [l_neSelf, l_eqSelf, key_int, key_str, keyD, defM, initM, tail_mapS, take_mapS, drop_mapS, sl0, slI, lcAll_map, lcAll_rng, forL_map, forL_rng, -List.map_take, -List.map_drop, -List.map_tail, -List.map_reverse, c1, hch, hE, hx, z3] })
            rw [req_of (by omega), if_pos z2]
            (conv => { lhs; simp -implicitDefEqProofs [l_neSelf, l_eqSelf, key_int, key_str, keyD, defM, initM, tail_mapS, take_mapS, drop_mapS, sl0, slI, lcAll_map, lcAll_rng, forL_map, forL_rng, -List.map_take, -List.map_drop, -List.map_tail, -List.map_reverse, hi] })
            rfl
          · have z3 : ¬ (⟨#[c]⟩ : Str) = Str.ofString "0" := fun h => z1 (hzz.mp h)
            (conv => { lhs; simp -implicitDefEqProofs [l_neSelf, l_eqSelf, key_int, key_str, keyD, defM, initM, tail_mapS, take_mapS, drop_mapS, sl0, slI, lcAll_map, lcAll_rng, forL_map, forL_rng, -List.map_take, -List.map_drop, -List.map_tail, -List.map_reverse, c1, hch, hE, hx, z3, hi] })
            rw [req_of (by omega)]
            rfl
      · have n0 : numW w = none := if_neg fun h => ca h.2.1
        have hE : ∃ x, x ∈ digW w ∧ ¬ x ∈ (Str.ofString "0123456789").cps := by
          apply Classical.byContradiction
          intro h
          refine ca (List.all_eq_true.mpr fun x hx => ?_)
          apply Classical.byContradiction
          exact fun q => h ⟨x, hx, fun z => q ((hin x).mp z)⟩
        rw [n0]
        (conv => { lhs; simp -implicitDefEqProofs [l_neSelf, l_eqSelf, key_int, key_str, keyD, defM, initM, tail_mapS, take_mapS, drop_mapS, sl0, slI, lcAll_map, lcAll_rng, forL_map, forL_rng, -List.map_take, -List.map_drop, -List.map_tail, -List.map_reverse, c1, hch, hE] })
        rw [req_of (by omega)]
        rfl
  by_cases c : (TL.tl w).take 1 = [45]
  · have m := main (cutS w (some 1) none) (by rw [tl_lo (by decide)]; exact (if_pos c).symm) o2 (Nat.le_trans (L2.cutS_length ..) hl)
    have z := e1.mpr c
    refine Eq.trans ?_ m
    simp -implicitDefEqProofs [l_neSelf, l_eqSelf, key_int, key_str, keyD, defM, initM, tail_mapS, take_mapS, drop_mapS, sl0, slI, lcAll_map, lcAll_rng, forL_map, forL_rng, -List.map_take, -List.map_drop, -List.map_tail, -List.map_reverse, f_number_told, b_number_told, z]
    exact req_of (by omega)
  · have m := main w (if_neg c).symm hw hl
    have z : ¬ cutS w none (some 1) = Str.ofString "-" := fun h => c (e1.mp h)
    refine Eq.trans ?_ m
    simp -implicitDefEqProofs [l_neSelf, l_eqSelf, key_int, key_str, keyD, defM, initM, tail_mapS, take_mapS, drop_mapS, sl0, slI, lcAll_map, lcAll_rng, forL_map, forL_rng, -List.map_take, -List.map_drop, -List.map_tail, -List.map_reverse, f_number_told, b_number_told, z]
    exact req_of (by omega)

/-- Lot_init(self, lists); slots: 0 self, 1 lists -/
def b_Lot_init : SM := (mSeq (mDrop (mCall 1 f_check_lists (mCons (mVar 1) mNil)))
  (mStF (Str.ofString "Lot") (Str.ofString "kept") 0 (mVar 1)))
def f_Lot_init : FM := initM b_Lot_init [(Str.ofString "self"), (Str.ofString "lists")] (Str.ofString "Lot")
--@use lotd
theorem Lot_init_eq {ls : List (List Int)} (h : LotOk ls) : f_Lot_init [tL ls] = val (.d (dLot ls)) := by
  (conv => { lhs; simp -implicitDefEqProofs [l_neSelf, l_eqSelf, key_int, key_str, keyD, defM, initM, tail_mapS, take_mapS, drop_mapS, sl0, slI, lcAll_map, lcAll_rng, forL_map, forL_rng, -List.map_take, -List.map_drop, -List.map_tail, -List.map_reverse, f_Lot_init, b_Lot_init, check_lists_eq h] })
@[simp] theorem mk_Lot {ls : List (List Int)} (h : LotOk ls) : mkM false (Str.ofString "Lot") f_Lot_init [tL ls] = val (.d (dLot ls)) := by
  unfold mkM; rw [Lot_init_eq h]; rfl
theorem mk_LotE {ls : List (List Int)} {es : List D} (h : LotOk ls) (e : es = ls.map tI) : mkM false (Str.ofString "Lot") f_Lot_init [.tup es] = val (.d (dLot ls)) := by rw [e]; exact mk_Lot h

--@use num2 vald sok
/-! ### what a text tells, whatever it is -/
def vTxt (s : Str) : D := .tup ((Txt.split s (Str.ofString "\n")).map fun l => .tup ((Txt.split l (Str.ofString " ")).map fun w => oI (numW w)))
structure TxtOk (s : Str) : Prop where
  ok : PyData.strOk s = true
  len : s.length ≤ 100000
  ln : (Txt.split s (Str.ofString "\n")).length ≤ 400
  wd : ∀ l ∈ Txt.split s (Str.ofString "\n"), l.length ≤ 100000 ∧ (Txt.split l (Str.ofString " ")).length ≤ 400 ∧ ∀ w ∈ Txt.split l (Str.ofString " "), PyData.strOk w = true ∧ w.length ≤ 100
theorem oI_known {o : Option Int} : (oI o).known = true := by cases o <;> rfl
theorem oI_eq {o : Option Int} {n : Nat} : EqOk n (oI o) := by cases o <;> first | exact eqOk_non | exact eqOk_int
theorem TxtOk.val {s : Str} (h : TxtOk s) : ValD (vTxt s) := .tup (by rw [List.length_map]; exact h.ln) fun x hx => by
  obtain ⟨l, hl, rfl⟩ := List.mem_map.mp hx
  obtain ⟨_, h2, _⟩ := h.wd l hl
  exact .tup (by rw [List.length_map]; exact h2) fun y hy => by
    obtain ⟨w, _, rfl⟩ := List.mem_map.mp hy
    exact ⟨oI_known, oI_eq⟩


/-- lot_told(text); slots: 0 text, 1 lists, 2 line, 3 word -/
def b_lot_told : SM := (mSeq (mIf (mNot (mB (mCallB fIsi (mCons (mVar 0) (mCons (mC (.v (.ty "str"))) mNil))))) (mRet (mC .non)) mNext)
  (mSeq (mSet 1 (mCallB fTuple (mCons (mLc (mItems (mM1 fSplit (mVar 0) (mC (.str (Str.ofString "\n"))))) (fName 2) mYes (mCallB fTuple (mCons (mLc (mItems (mM1 fSplit (mVar 2) (mC (.str (Str.ofString " "))))) (fName 3) mYes (mCall 1 f_number_told (mCons (mVar 3) mNil)) [3]) mNil)) [2]) mNil)))
  (mTry xtab xown (mRet (mCall 1 (mkM false (Str.ofString "Lot") f_Lot_init) (mCons (mVar 1) mNil))) [⟨[(Str.ofString "InvalidLists")], none, (mRet (mC .non))⟩])))
def f_lot_told : FM := defM b_lot_told [(Str.ofString "text"), (Str.ofString "lists"), (Str.ofString "line"), (Str.ofString "word")]
--@use num2 lotd txt
theorem lot_told_page {ls : List (List Int)} (h : LotOk ls) (hb : Bits4 ls) : f_lot_told [.str (pageS ls)] = val (.d (dLot ls)) := by
  have hne : ls ≠ [] := fun e => by have := h.1.1; rw [e] at this; simp at this
  have hlp := pageS_len hb fun l hl => (h.2 l hl).2.1
  have h6 := h.1
  have e1 := split_page hne
  have mk := mk_Lot h
  have hs : sizeLine = 16777216 := rfl
  have n1 : (Str.ofString "\n").length = 1 := nl_len
  have s1 : (Str.ofString " ").length = 1 := sp_len
  have step : ∀ l ∈ ls, ∀ x ∈ l, f_number_told [.str (numS x)] = val (.d (.int x)) := fun l hl x hx => by
    rw [number_told_eq (num_ok x) (by have := numS_len (hb l hl x hx); omega), numW_num]; rfl
  (conv => { lhs; simp -implicitDefEqProofs [l_neSelf, l_eqSelf, key_int, key_str, keyD, defM, initM, tail_mapS, take_mapS, drop_mapS, sl0, slI, lcAll_map, lcAll_rng, forL_map, forL_rng, -List.map_take, -List.map_drop, -List.map_tail, -List.map_reverse, f_lot_told, b_lot_told, e1, n1] })
  rw [req_of ⟨by omega, by omega⟩, lcAll_congr (step' := fun l => M.one [tI l]) fun l hl => ?_, lcAll_one1]
  · simp -implicitDefEqProofs [l_neSelf, l_eqSelf, key_int, key_str, keyD, defM, initM, tail_mapS, take_mapS, drop_mapS, sl0, slI, lcAll_map, lcAll_rng, forL_map, forL_rng, -List.map_take, -List.map_drop, -List.map_tail, -List.map_reverse, mk]
  · have hl0 := (h.2 l hl).1
    have hl4 := (h.2 l hl).2.1
    have hll := lineS_len (hb l hl)
    rw [split_line hl0, req_of ⟨⟨by omega, by omega⟩, by rw [List.length_map]; omega⟩, lcAll_map, lcAll_congr (step' := fun x : Int => M.one [D.int x]) fun x hx => ?_, lcAll_one1]
    · rfl
    · simp -implicitDefEqProofs [l_neSelf, l_eqSelf, key_int, key_str, keyD, defM, initM, tail_mapS, take_mapS, drop_mapS, sl0, slI, lcAll_map, lcAll_rng, forL_map, forL_rng, -List.map_take, -List.map_drop, -List.map_tail, -List.map_reverse, step l hl x hx]

theorem told_all {s : Str} (h : TxtOk s) : (∀ (z : Sl), lcAll (fun a => M.req ((¬(Str.ofString " ").length = 0 ∧ a.length ≤ 16777214) ∧ (Txt.split a (Str.ofString " ")).length ≤ 16777216) ((lcAll (fun b => (quiet (put (f_number_told [D.str b]) (z ++ [some (.d (.str a)), some (.d (.str b))])) (z ++ [some (.d (.str a)), some (.d (.str b))])).bind fun y => M.one [y.frz]) (Txt.split a (Str.ofString " "))).bind fun a => M.one [D.tup a])) (Txt.split s (Str.ofString "\n")) = M.one ((Txt.split s (Str.ofString "\n")).map fun l => D.tup ((Txt.split l (Str.ofString " ")).map fun w => oI (numW w)))) := fun z => by
  have s1 : (Str.ofString " ").length = 1 := sp_len
  rw [lcAll_congr (step' := fun l => M.one [D.tup ((Txt.split l (Str.ofString " ")).map fun w => oI (numW w))]) fun l hl => ?_, lcAll_one1]
  obtain ⟨h1, h2, h3⟩ := h.wd l hl
  rw [req_of ⟨⟨by omega, by omega⟩, by omega⟩, lcAll_congr (step' := fun w => M.one [oI (numW w)]) fun w hw => ?_, lcAll_one1]
  · rfl
  · obtain ⟨w1, w2⟩ := h3 w hw
    simp -implicitDefEqProofs [l_neSelf, l_eqSelf, key_int, key_str, keyD, defM, initM, tail_mapS, take_mapS, drop_mapS, sl0, slI, lcAll_map, lcAll_rng, forL_map, forL_rng, -List.map_take, -List.map_drop, -List.map_tail, -List.map_reverse, number_told_eq w1 (show w.length ≤ 640 by omega)]
theorem mk_Lot_bad {d i : D} (h : ValD d) (n : slipI d = some i) : mkM false (Str.ofString "Lot") f_Lot_init [d] = exn ⟨"InvalidLists", [("index", i)]⟩ := by
  have e := check_lists_bad h n
  have e2 : f_Lot_init [d] = exn ⟨"InvalidLists", [("index", i)]⟩ := by
    (conv => { lhs; simp -implicitDefEqProofs [l_neSelf, l_eqSelf, key_int, key_str, keyD, defM, initM, tail_mapS, take_mapS, drop_mapS, sl0, slI, lcAll_map, lcAll_rng, forL_map, forL_rng, -List.map_take, -List.map_drop, -List.map_tail, -List.map_reverse, f_Lot_init, b_Lot_init, e] })
  unfold mkM; rw [e2]; rfl
theorem lot_told_lot {s : Str} {ls : List (List Int)} (h : TxtOk s) (e : vTxt s = tL ls) (hl : LotOk ls) : f_lot_told [.str s] = val (.d (dLot ls)) := by
  have mk := mk_Lot hl
  rw [← e] at mk
  have n1 : (Str.ofString "\n").length = 1 := nl_len
  have h1 := h.len
  have h2 := h.ln
  have hg := told_all h [some (.d (.str s)), none]
  (conv => { lhs; simp -implicitDefEqProofs [l_neSelf, l_eqSelf, key_int, key_str, keyD, defM, initM, tail_mapS, take_mapS, drop_mapS, sl0, slI, lcAll_map, lcAll_rng, forL_map, forL_rng, -List.map_take, -List.map_drop, -List.map_tail, -List.map_reverse, f_lot_told, b_lot_told, n1] })
  rw [req_of ⟨by omega, by omega⟩]
  erw [hg]
  show ((mkM false (Str.ofString "Lot") f_Lot_init [vTxt s]).bind _) = _
  rw [mk]
  rfl
theorem lot_told_bad {s : Str} {i : D} (h : TxtOk s) (e : slipI (vTxt s) = some i) : f_lot_told [.str s] = val (.d .non) := by
  have mk := mk_Lot_bad h.val e
  have n1 : (Str.ofString "\n").length = 1 := nl_len
  have h1 := h.len
  have h2 := h.ln
  have hg := told_all h [some (.d (.str s)), none]
  (conv => { lhs; simp -implicitDefEqProofs [l_neSelf, l_eqSelf, key_int, key_str, keyD, defM, initM, tail_mapS, take_mapS, drop_mapS, sl0, slI, lcAll_map, lcAll_rng, forL_map, forL_rng, -List.map_take, -List.map_drop, -List.map_tail, -List.map_reverse, f_lot_told, b_lot_told, n1] })
  rw [req_of ⟨by omega, by omega⟩]
  erw [hg]
  show ((mkM false (Str.ofString "Lot") f_Lot_init [vTxt s]).bind _) = _
  rw [mk, exn_bind, oc_x, show xtab.any "InvalidLists" ["InvalidLists"] = some true from by decide +kernel, xcase_y]
theorem lot_told_no {d : D} (h : d.known = true) (hs : d.isS = false) : f_lot_told [d] = val (.d .non) := by
  have e := l_isi_str h
  rw [hs] at e
  (conv => { lhs; simp -implicitDefEqProofs [l_neSelf, l_eqSelf, key_int, key_str, keyD, defM, initM, tail_mapS, take_mapS, drop_mapS, sl0, slI, lcAll_map, lcAll_rng, forL_map, forL_rng, -List.map_take, -List.map_drop, -List.map_tail, -List.map_reverse, f_lot_told, b_lot_told, e] })

/-- law_jar(law_script, law_k); slots: 0 law_script, 1 law_k, 2 law_churned, 3 law_cell, 4 law_own, 5 law_digits -/
def b_law_jar : SM := (mSeq (mSet 2 (mBin fAdd (mBin fMul (mBin fMul (mC (.int 7369)) (mBin fAdd (mVar 1) (mC (.int 5)))) (mBin fAdd (mVar 1) (mC (.int 2)))) (mBin fMul (mC (.int 29)) (mCallB fLen (mCons (mVar 0) mNil)))))
  (mSeq (mFor (mItems (mSl (mVar 0) mNoP (mPart (mC (.int 4))))) (fName 3) (mSet 2 (mBin fMod (mCallB fInt (mCons (mBin fAdd (mBin fMul (mVar 2) (mC (.int 733))) (mVar 3)) mNil)) (mC (.int 1000000009)))) [3])
  (mSeq (mSet 4 (mIfE (mB (mBin fLt (mVar 1) (mCallB fLen (mCons (mVar 0) mNil)))) (mIxV 0 (mVar 1)) (mC (.int 0))))
  (mSeq (mSet 5 (mIfE (mOr (mB (mBin fLt (mVar 4) (mC (.int 0)))) (mB (mBin fGe (mVar 4) (mBin fPow (mC (.int 10)) (mC (.int 18)))))) (mCallB fAbs (mCons (mVar 4) mNil)) (mC (.int 0))))
  (mRet (mLst (mCons (mVar 5) (mCons (mBin fMod (mCallB fInt (mCons (mBin fAdd (mBin fAdd (mBin fMul (mVar 2) (mC (.int 8117))) (mBin fMul (mVar 4) (mC (.int 64013)))) (mBin fMul (mC (.int 105019)) (mBin fAdd (mVar 1) (mC (.int 1))))) mNil)) (mC (.int 2147483563))) (mCons (mC (.int 0)) mNil)))))))))
def f_law_jar : FM := defM b_law_jar [(Str.ofString "_law_script"), (Str.ofString "_law_k"), (Str.ofString "_law_churned"), (Str.ofString "_law_cell"), (Str.ofString "_law_own"), (Str.ofString "_law_digits")]
def p_law_jar : FM := fun ds => (val (.d .jar)).req (∃ (ns : List Int) (k : Int), ds = [.rls (ns.map .int), .int k] ∧ (0 ≤ k ∧ k < 1000) ∧ ns.length ≤ 63)
@[simp] theorem law_jar_eq {ns : List Int} {k : Int} (h : 0 ≤ k ∧ k < 1000) (hn : ns.length ≤ 63) : p_law_jar [.rls (ns.map .int), .int k] = val (.d .jar) := req_of ⟨ns, k, rfl, h, hn⟩
theorem j_law_jar : ∀ (ds : List D) (μ : Mem) (P : Oc S → Mem → Prop), ds.length = 2 → (p_law_jar ds).wp μ P → (f_law_jar ds).wp μ fun r μ => ∃ x y z : Int, r = .v (.own [.int x, .int y, .int z]) ∧ (-(2 ^ 40) < y ∧ y < 2 ^ 40) ∧ P (.v (.d .jar)) μ := by
  intro ds μ P _ q
  refine j_of ?_ q
  clear q
  rintro ⟨ns, k, rfl, hk, hn⟩
  have hf : ∀ a : Int, -1099511627776 < a.fmod 2147483563 ∧ a.fmod 2147483563 < 1099511627776 := fun a => by
    have := fmod_pos (a := a) (b := 2147483563) (by decide); omega
  simp -implicitDefEqProofs [l_neSelf, l_eqSelf, key_int, key_str, keyD, defM, initM, tail_mapS, take_mapS, drop_mapS, sl0, slI, lcAll_map, lcAll_rng, forL_map, forL_rng, -List.map_take, -List.map_drop, -List.map_tail, -List.map_reverse, f_law_jar, b_law_jar]
  refine ⟨⟨⟨by walk_at "side", by walk_at "side"⟩, by walk_at "side"⟩, ?_⟩
  refine sat_for (fun _ ρ => ∃ c : Int, ρ = [some (.d (.rls (ns.map .int))), some (.d (.int k)), some (.d (.int c)), none, none, none]) ⟨_, rfl⟩ ?_ ?_
  · rintro a l' ρ ⟨c, rfl⟩
    simp -implicitDefEqProofs [l_neSelf, l_eqSelf, key_int, key_str, keyD, defM, initM, tail_mapS, take_mapS, drop_mapS, sl0, slI, lcAll_map, lcAll_rng, forL_map, forL_rng, -List.map_take, -List.map_drop, -List.map_tail, -List.map_reverse]
    refine mulOk_r ⟨?_, ?_⟩ <;> omega
  · rintro ρ ⟨c, rfl⟩
    have fin : ∀ own : Int, (DL.MulOk c 8117 ∧ DL.MulOk own 64013) ∧ DL.MulOk 105019 (k + 1) := fun own => ⟨⟨by walk_at "side", by walk_at "side"⟩, by walk_at "side"⟩
    by_cases c0 : k < (ns.length : Int)
    · have := ixM_in (g := D.int) hk.1 c0
      generalize nth ns k.toNat = own at this
      by_cases c1 : own < 0
      · simp -implicitDefEqProofs [l_neSelf, l_eqSelf, key_int, key_str, keyD, defM, initM, tail_mapS, take_mapS, drop_mapS, sl0, slI, lcAll_map, lcAll_rng, forL_map, forL_rng, -List.map_take, -List.map_drop, -List.map_tail, -List.map_reverse, c0, this, c1]
        exact ⟨⟨(fin 0).1.1, (fin own).1.2, (fin 0).2⟩, _, _, ⟨rfl, rfl⟩, hf _⟩
      · by_cases c2 : 1000000000000000000 ≤ own
        · simp -implicitDefEqProofs [l_neSelf, l_eqSelf, key_int, key_str, keyD, defM, initM, tail_mapS, take_mapS, drop_mapS, sl0, slI, lcAll_map, lcAll_rng, forL_map, forL_rng, -List.map_take, -List.map_drop, -List.map_tail, -List.map_reverse, c0, this, c1, c2]
          exact ⟨⟨(fin 0).1.1, (fin own).1.2, (fin 0).2⟩, _, _, ⟨rfl, rfl⟩, hf _⟩
        · simp -implicitDefEqProofs [l_neSelf, l_eqSelf, key_int, key_str, keyD, defM, initM, tail_mapS, take_mapS, drop_mapS, sl0, slI, lcAll_map, lcAll_rng, forL_map, forL_rng, -List.map_take, -List.map_drop, -List.map_tail, -List.map_reverse, c0, this, c1, c2]
          exact ⟨⟨(fin 0).1.1, (fin own).1.2, (fin 0).2⟩, _, _, ⟨rfl, rfl⟩, hf _⟩
    · simp -implicitDefEqProofs [l_neSelf, l_eqSelf, key_int, key_str, keyD, defM, initM, tail_mapS, take_mapS, drop_mapS, sl0, slI, lcAll_map, lcAll_rng, forL_map, forL_rng, -List.map_take, -List.map_drop, -List.map_tail, -List.map_reverse, c0]
      exact ⟨⟨(fin 0).1.1, (fin 0).1.2, (fin 0).2⟩, _, _, ⟨rfl, rfl⟩, hf _⟩

/-- law_dip(law_jar_here, law_wide); slots: 0 law_jar_here, 1 law_wide, 2 law_digit, 3 law_seed -/
def b_law_dip : SM := (mSeq (mSetIx 0 (mC (.int 2)) (mBin fAdd (mIxV 0 (mC (.int 2))) (mC (.int 1))))
  (mSeq (mIf (mB (mBin fGt (mIxV 0 (mC (.int 0))) (mC (.int 0)))) (mSeq (mSet 2 (mBin fMod (mCallB fInt (mCons (mIxV 0 (mC (.int 0))) mNil)) (mVar 1)))
  (mSeq (mSetIx 0 (mC (.int 0)) (mBin fDiv (mCallB fInt (mCons (mIxV 0 (mC (.int 0))) mNil)) (mVar 1)))
  (mRet (mVar 2)))) mNext)
  (mSeq (mSet 3 (mCallB fInt (mCons (mIxV 0 (mC (.int 1))) mNil)))
  (mSeq (mSetIx 0 (mC (.int 1)) (mBin fMod (mCallB fInt (mCons (mBin fAdd (mBin fAdd (mBin fMul (mVar 3) (mC (.int 40692))) (mBin fMul (mIxV 0 (mC (.int 2))) (mC (.int 52021)))) (mC (.int 31))) mNil)) (mC (.int 2147483399))))
  (mRet (mBin fMod (mCallB fInt (mCons (mBin fDiv (mIxV 0 (mC (.int 1))) (mC (.int 2048))) mNil)) (mVar 1)))))))
def f_law_dip : FM := defM b_law_dip [(Str.ofString "_law_jar_here"), (Str.ofString "_law_wide"), (Str.ofString "_law_digit"), (Str.ofString "_law_seed")]
def p_law_dip : FM := fun ds => match ds with
  | [.jar, .int w] => ((M.any fun i : Int => 0 ≤ i ∧ i < w).bind fun i => val (.d (.int i))).req (0 < w ∧ w < 10 ^ 41)
  | _ => M.bad
@[simp] theorem law_dip_eq {w : Int} : p_law_dip [.jar, .int w] = ((M.any fun i : Int => 0 ≤ i ∧ i < w).bind fun i => val (.d (.int i))).req (0 < w ∧ w < 10 ^ 41) := rfl
theorem dip_div {w : Int} (h : 0 < w ∧ w < 10 ^ 41) (a : Int) : DivOk a w := divOk_w 140 h.1 (by omega) (by decide) (by decide)
theorem o_law_dip : ∀ ds : List D, ds.length = 2 → (f_law_dip ds).le (p_law_dip ds) := by
  intro ds _ μ P h
  unfold p_law_dip at h
  split at h
  · rename_i w _
    obtain ⟨hw, h⟩ := h
    have hp : ∀ i : Int, 0 ≤ i → i < w → P (.v (.d (.int i))) μ := fun i h1 h2 => h i ⟨h1, h2⟩
    have hm : ∀ a : Int, 0 ≤ a.fmod w ∧ a.fmod w < w := fun a => fmod_pos hw.1
    simp -implicitDefEqProofs [l_neSelf, l_eqSelf, key_int, key_str, keyD, defM, initM, tail_mapS, take_mapS, drop_mapS, sl0, slI, lcAll_map, lcAll_rng, forL_map, forL_rng, -List.map_take, -List.map_drop, -List.map_tail, -List.map_reverse, f_law_dip, b_law_dip]
    intro a
    by_cases c : 0 < a
    · simp -implicitDefEqProofs [l_neSelf, l_eqSelf, key_int, key_str, keyD, defM, initM, tail_mapS, take_mapS, drop_mapS, sl0, slI, lcAll_map, lcAll_rng, forL_map, forL_rng, -List.map_take, -List.map_drop, -List.map_tail, -List.map_reverse, c]
      exact fun b => ⟨by omega, fun d => ⟨dip_div hw _, hp _ (hm _).1 (hm _).2⟩⟩
    · simp -implicitDefEqProofs [l_neSelf, l_eqSelf, key_int, key_str, keyD, defM, initM, tail_mapS, take_mapS, drop_mapS, sl0, slI, lcAll_map, lcAll_rng, forL_map, forL_rng, -List.map_take, -List.map_drop, -List.map_tail, -List.map_reverse, c]
      refine fun a h1 h2 => ⟨by walk_at "side", fun b => ⟨⟨by walk_at "side", ?_, ?_⟩, fun d h3 h4 => ⟨⟨by walk_at "side", by omega⟩, hp _ (hm _).1 (hm _).2⟩⟩⟩
      · have := (fmod_pos (a := a * 40692 + b * 52021 + 31) (b := 2147483399) (by decide)).1; omega
      · have := (fmod_pos (a := a * 40692 + b * 52021 + 31) (b := 2147483399) (by decide)).2; omega
  · exact h.elim

/-- law_pick(law_jar_here, law_menu); slots: 0 law_jar_here, 1 law_menu, 2 law_at -/
def b_law_pick : SM := (mSeq (mSet 2 (mCall 2 p_law_dip (mCons (mVar 0) (mCons (mCallB fLen (mCons (mVar 1) mNil)) mNil))))
  (mRet (mIxV 1 (mVar 2))))
def f_law_pick : FM := defM b_law_pick [(Str.ofString "_law_jar_here"), (Str.ofString "_law_menu"), (Str.ofString "_law_at")]
--@use num
def p_law_pick : FM := fun ds => match ds with
  | [.jar, .lst es] => ((M.any fun d : D => d ∈ es).bind fun d => val (.d d)).req (0 < es.length ∧ es.length < 1000000)
  | [.jar, .tup es] => ((M.any fun d : D => d ∈ es).bind fun d => val (.d d)).req (0 < es.length ∧ es.length < 1000000)
  | [.jar, .str s] => ((M.any fun c : Nat => c ∈ TL.tl s).bind fun c => val (.d (.str ⟨#[c]⟩))).req (0 < s.length ∧ s.length < 1000000)
  | _ => M.bad
@[simp] theorem law_pick_eq {es : List D} : p_law_pick [.jar, .lst es] = ((M.any fun d : D => d ∈ es).bind fun d => val (.d d)).req (0 < es.length ∧ es.length < 1000000) := rfl
@[simp] theorem law_pick_eqS {s : Str} : p_law_pick [.jar, .str s] = ((M.any fun c : Nat => c ∈ TL.tl s).bind fun c => val (.d (.str ⟨#[c]⟩))).req (0 < s.length ∧ s.length < 1000000) := rfl
@[simp] theorem law_pick_eqT {es : List D} : p_law_pick [.jar, .tup es] = ((M.any fun d : D => d ∈ es).bind fun d => val (.d d)).req (0 < es.length ∧ es.length < 1000000) := rfl
theorem l_ixS {s : Str} {i : Int} (h0 : 0 ≤ i) (h1 : i.toNat < (TL.tl s).length) (hl : s.length ≤ sizeLine) : M.lift (fIx (.str s) (.int i)) = M.one (.d (.str ⟨#[(TL.tl s)[i.toNat]]⟩)) := lift_one fun R => by
  unfold fIx
  have e : atI s.cps.toList i = some (TL.tl s)[i.toNat] := by
    have e2 : i = ((i.toNat : Nat) : Int) := by omega
    have e3 := L2.atI_nat (j := i.toNat) (List.getElem?_eq_getElem h1)
    rw [← e2] at e3
    exact e3
  exact propext ⟨fun ⟨c', _, h1, h2⟩ => by rw [e] at h1; cases h1; exact h2, fun h => ⟨_, hl, e, h⟩⟩
theorem o_law_pick : ∀ ds : List D, ds.length = 2 → (f_law_pick ds).le (p_law_pick ds) := by
  intro ds _
  unfold p_law_pick
  split
  · rename_i es _
    refine le_any fun h => ?_
    simp -implicitDefEqProofs [l_neSelf, l_eqSelf, key_int, key_str, keyD, defM, initM, tail_mapS, take_mapS, drop_mapS, sl0, slI, lcAll_map, lcAll_rng, forL_map, forL_rng, -List.map_take, -List.map_drop, -List.map_tail, -List.map_reverse, f_law_pick, b_law_pick]
    refine ⟨⟨h.1, by omega⟩, fun a h0 h1 => ?_⟩
    obtain ⟨d, hd, e⟩ := ixM_mem h0 h1
    simp -implicitDefEqProofs [l_neSelf, l_eqSelf, key_int, key_str, keyD, defM, initM, tail_mapS, take_mapS, drop_mapS, sl0, slI, lcAll_map, lcAll_rng, forL_map, forL_rng, -List.map_take, -List.map_drop, -List.map_tail, -List.map_reverse, e, hd]
  · rename_i es _
    refine le_any fun h => ?_
    simp -implicitDefEqProofs [l_neSelf, l_eqSelf, key_int, key_str, keyD, defM, initM, tail_mapS, take_mapS, drop_mapS, sl0, slI, lcAll_map, lcAll_rng, forL_map, forL_rng, -List.map_take, -List.map_drop, -List.map_tail, -List.map_reverse, f_law_pick, b_law_pick]
    refine ⟨⟨h.1, by omega⟩, fun a h0 h1 => ?_⟩
    obtain ⟨d, hd, e⟩ := ixM_mem h0 h1
    simp -implicitDefEqProofs [l_neSelf, l_eqSelf, key_int, key_str, keyD, defM, initM, tail_mapS, take_mapS, drop_mapS, sl0, slI, lcAll_map, lcAll_rng, forL_map, forL_rng, -List.map_take, -List.map_drop, -List.map_tail, -List.map_reverse, e, hd]
  · rename_i s _
    refine le_any fun h => ?_
    simp -implicitDefEqProofs [l_neSelf, l_eqSelf, key_int, key_str, keyD, defM, initM, tail_mapS, take_mapS, drop_mapS, sl0, slI, lcAll_map, lcAll_rng, forL_map, forL_rng, -List.map_take, -List.map_drop, -List.map_tail, -List.map_reverse, f_law_pick, b_law_pick]
    refine ⟨⟨by omega, h.1, by omega⟩, fun a a0 a1 => ?_⟩
    have hk : a.toNat < (TL.tl s).length := by rw [← TL.len_tl]; omega
    have e := l_ixS (s := s) a0 hk (show s.length ≤ sizeLine by show s.length ≤ 16777216; omega)
    simp -implicitDefEqProofs [l_neSelf, l_eqSelf, key_int, key_str, keyD, defM, initM, tail_mapS, take_mapS, drop_mapS, sl0, slI, lcAll_map, lcAll_rng, forL_map, forL_rng, -List.map_take, -List.map_drop, -List.map_tail, -List.map_reverse, e]
  · exact fun _ _ h => h.elim

/-- law_some_list(law_jar_here, law_most_here, law_wide); slots: 0 law_jar_here, 1 law_most_here, 2 law_wide, 3 law_begin, 4 law_found, 5 law_turn -/
def b_law_some_list : SM := (mSeq (mSet 3 (mCall 2 p_law_pick (mCons (mVar 0) (mCons (mLst (mCons (mC (.int 0)) (mCons (mC (.int 0)) (mCons (mC (.int 0)) (mCons (mBin fSub (mCall 2 p_law_dip (mCons (mVar 0) (mCons (mC (.int 41)) mNil))) (mC (.int 20))) (mCons (mBin fSub (mBin fPow (mC (.int 10)) (mC (.int 20))) (mCall 2 p_law_dip (mCons (mVar 0) (mCons (mBin fPow (mC (.int 10)) (mC (.int 21))) mNil)))) mNil)))))) mNil))))
  (mSeq (mSet 4 (mLc (mRng rg1 (mCons (mBin fAdd (mC (.int 1)) (mCall 2 p_law_dip (mCons (mVar 0) (mCons (mVar 1) mNil)))) mNil)) (fName 5) mYes (mBin fAdd (mVar 3) (mCall 2 p_law_dip (mCons (mVar 0) (mCons (mVar 2) mNil)))) [5]))
  (mRet (mCallB fTuple (mCons (mCallB fSortedSet (mCons (mVar 4) mNil)) mNil)))))
def f_law_some_list : FM := defM b_law_some_list [(Str.ofString "_law_jar_here"), (Str.ofString "_law_most_here"), (Str.ofString "_law_wide"), (Str.ofString "_law_begin"), (Str.ofString "_law_found"), (Str.ofString "_law_turn")]
--@use lot
def SomeList (m : Nat) (ns : List Int) : Prop := ns ≠ [] ∧ ns.length ≤ m ∧ Asc ns ∧ ∀ x ∈ ns, -(10 ^ 23) < x ∧ x < 10 ^ 23
/-- .. within a stretch -/
def SomeListW (m : Nat) (w : Int) (ns : List Int) : Prop := SomeList m ns ∧ ∀ x ∈ ns, ∀ y ∈ ns, x - y < w
def p_law_some_list : FM := fun ds => match ds with
  | [.jar, .int m, .int w] => ((M.any fun ns : List Int => SomeListW m.toNat w ns).bind fun ns => val (.d (tI ns))).req ((1 ≤ m ∧ m ≤ 40) ∧ 1 ≤ w ∧ w ≤ 10 ^ 22)
  | _ => M.bad
@[simp] theorem law_some_list_eq {m w : Int} : p_law_some_list [.jar, .int m, .int w] = ((M.any fun ns : List Int => SomeListW m.toNat w ns).bind fun ns => val (.d (tI ns))).req ((1 ≤ m ∧ m ≤ 40) ∧ 1 ≤ w ∧ w ≤ 10 ^ 22) := rfl
theorem o_law_some_list : ∀ ds : List D, ds.length = 3 → (f_law_some_list ds).le (p_law_some_list ds) := by
  intro ds _
  unfold p_law_some_list
  split
  · rename_i m w _
    refine le_any fun h => ?_
    obtain ⟨⟨m1, m2⟩, w1, w2⟩ := h
    have w3 : 0 < w := by omega
    have w4 : w < 100000000000000000000000000000000000000000 := by omega
    have m3 : 0 < m := by omega
    have m4 : m < 100000000000000000000000000000000000000000 := by omega
    have fin : ∀ (b n : Int) (xs : List Int), 0 ≤ n → n < m → (-(10 ^ 22) < b ∧ b < 10 ^ 22) → xs.length = (1 + n).toNat → (∀ x ∈ xs, 0 ≤ x ∧ x < w) → (xs.map fun x => b + x).length < 4095 ∧ SomeListW m.toNat w (usort (xs.map fun x => b + x)) := by
      intro b n xs h1 h2 hb hl hx
      have hlen := usort_len (xs.map fun x => b + x)
      rw [List.length_map] at hlen
      refine ⟨by rw [List.length_map]; omega, ⟨fun e => ?_, by omega, usort_sorted _, fun y hy => ?_⟩, fun y hy z hz => ?_⟩
      · cases xs with
        | nil => simp at hl; omega
        | cons x xs => have : b + x ∈ usort ((x :: xs).map fun x => b + x) := usort_mem.mpr (by simp); rw [e] at this; simp at this
      · obtain ⟨x, hx', rfl⟩ := List.mem_map.mp (usort_mem.mp hy)
        have := hx x hx'; omega
      · obtain ⟨x, hx', rfl⟩ := List.mem_map.mp (usort_mem.mp hy)
        obtain ⟨x', hx'', rfl⟩ := List.mem_map.mp (usort_mem.mp hz)
        have := hx x hx'; have := hx x' hx''; omega
    simp -implicitDefEqProofs [l_neSelf, l_eqSelf, key_int, key_str, keyD, defM, initM, tail_mapS, take_mapS, drop_mapS, sl0, slI, lcAll_map, lcAll_rng, forL_map, forL_rng, -List.map_take, -List.map_drop, -List.map_tail, -List.map_reverse, f_law_some_list, b_law_some_list, w3, w4, m3, m4]
    refine fun a a0 a1 c c0 c1 => ⟨fun n n0 n1 => ⟨⟨⟨by omega, by omega⟩, by omega⟩, fun xs hl hx => ?_⟩, fun n n0 n1 => ⟨⟨⟨by omega, by omega⟩, by omega⟩, fun xs hl hx => ?_⟩, fun n n0 n1 => ⟨⟨⟨by omega, by omega⟩, by omega⟩, fun xs hl hx => ?_⟩⟩
    · have := fin 0 n xs n0 n1 (by omega) hl hx
      simp at this
      exact ⟨this.1, _, this.2, rfl⟩
    · have := fin (a - 20) n xs n0 n1 (by omega) hl hx
      exact ⟨by simpa using this.1, _, this.2, rfl⟩
    · have := fin (100000000000000000000 - c) n xs n0 n1 (by omega) hl hx
      exact ⟨by simpa using this.1, _, this.2, rfl⟩
  · exact fun _ _ h => h.elim

/-- law_steps_of(law_jar_here, law_lists_here, law_most_here); slots: 0 law_jar_here, 1 law_lists_here, 2 law_most_here, 3 law_found, 4 law_before, 5 law_turn, 6 law_at -/
def b_law_steps_of : SM := (mSeq (mPar 3 4 (mLst mNil) (mUn fNeg (mC (.int 1))))
  (mSeq (mFor (mRng rg1 (mCons (mCall 2 p_law_dip (mCons (mVar 0) (mCons (mBin fAdd (mVar 2) (mC (.int 1))) mNil))) mNil)) (fName 5) (mSeq (mSet 6 (mCall 2 p_law_dip (mCons (mVar 0) (mCons (mVar 1) mNil))))
  (mIf (mB (mBin fNe (mVar 6) (mVar 4))) (mSeq (mApp 3 (mTup (mCons (mBin fAdd (mC (.int 2)) (mCall 2 p_law_dip (mCons (mVar 0) (mCons (mCall 2 p_law_pick (mCons (mVar 0) (mCons (mLst (mCons (mC (.int 2)) (mCons (mC (.int 2)) (mCons (mC (.int 4)) mNil)))) mNil))) mNil)))) (mCons (mVar 6) mNil))))
  (mSet 4 (mVar 6))) mNext)) [5, 6])
  (mRet (mCallB fTuple (mCons (mVar 3) mNil)))))
def f_law_steps_of : FM := defM b_law_steps_of [(Str.ofString "_law_jar_here"), (Str.ofString "_law_lists_here"), (Str.ofString "_law_most_here"), (Str.ofString "_law_found"), (Str.ofString "_law_before"), (Str.ofString "_law_turn"), (Str.ofString "_law_at")]
--@use lot
/-- drawn steps -/
def SomeSteps (L M : Nat) (st : List (Nat × Nat)) : Prop := StepsOk L st ∧ st.length ≤ M ∧ ∀ p ∈ st, p.1 ≤ 5
def p_law_steps_of : FM := fun ds => match ds with
  | [.jar, .int l, .int m] => ((M.any fun st : List (Nat × Nat) => SomeSteps l.toNat m.toNat st).bind fun st => val (.d (tS st))).req ((1 ≤ l ∧ l ≤ 40) ∧ 0 ≤ m ∧ m ≤ 1000)
  | _ => M.bad
@[simp] theorem law_steps_of_eq {l m : Int} : p_law_steps_of [.jar, .int l, .int m] = ((M.any fun st : List (Nat × Nat) => SomeSteps l.toNat m.toNat st).bind fun st => val (.d (tS st))).req ((1 ≤ l ∧ l ≤ 40) ∧ 0 ≤ m ∧ m ≤ 1000) := rfl
theorem o_law_steps_of : ∀ ds : List D, ds.length = 3 → (f_law_steps_of ds).le (p_law_steps_of ds) := by
  intro ds _
  unfold p_law_steps_of
  split
  · rename_i l m _
    refine le_any fun ⟨⟨l1, l2⟩, m1, m2⟩ => ?_
    simp -implicitDefEqProofs [l_neSelf, l_eqSelf, key_int, key_str, keyD, defM, initM, tail_mapS, take_mapS, drop_mapS, sl0, slI, lcAll_map, lcAll_rng, forL_map, forL_rng, -List.map_take, -List.map_drop, -List.map_tail, -List.map_reverse, f_law_steps_of, b_law_steps_of]
    refine ⟨⟨by omega, by omega⟩, fun n n0 n1 => ⟨⟨by omega, by omega⟩, ?_⟩⟩
    have hn : n.toNat ≤ m.toNat := by omega
    generalize n.toNat = k at *
    refine sat_forP (fun pre ρ => ∃ (st : List (Nat × Nat)) (b : Int), SomeSteps l.toNat pre.length st ∧ (∀ p, st.getLast? = some p → b = p.2) ∧ ρ = [some (.d .jar), some (.d (.int l)), some (.d (.int m)), some (.own (st.map sD)), some (.d (.int b)), none, none]) ⟨[], _, ⟨⟨by simp, trivial⟩, by simp, by simp⟩, by simp, rfl⟩ ?_ ?_
    · rintro pre a post ρ e ⟨st, b, hst, hb, rfl⟩
      have hpl : pre.length < k := (range_split e).1 ▸ (range_split e).2
      simp -implicitDefEqProofs [l_neSelf, l_eqSelf, key_int, key_str, keyD, defM, initM, tail_mapS, take_mapS, drop_mapS, sl0, slI, lcAll_map, lcAll_rng, forL_map, forL_rng, -List.map_take, -List.map_drop, -List.map_tail, -List.map_reverse]
      refine ⟨⟨by omega, by omega⟩, fun at' a0 a1 => ?_⟩
      by_cases c : at' = b
      · simp -implicitDefEqProofs [l_neSelf, l_eqSelf, key_int, key_str, keyD, defM, initM, tail_mapS, take_mapS, drop_mapS, sl0, slI, lcAll_map, lcAll_rng, forL_map, forL_rng, -List.map_take, -List.map_drop, -List.map_tail, -List.map_reverse, c]
        exact ⟨st, ⟨hst.1, by have := hst.2.1; omega, hst.2.2⟩, fun x y h => hb (x, y) h, rfl⟩
      · simp -implicitDefEqProofs [l_neSelf, l_eqSelf, key_int, key_str, keyD, defM, initM, tail_mapS, take_mapS, drop_mapS, sl0, slI, lcAll_map, lcAll_rng, forL_map, forL_rng, -List.map_take, -List.map_drop, -List.map_tail, -List.map_reverse, c]
        have hl : st.length < 16777216 := by have := hst.2.1; omega
        have fin : ∀ q : Int, 0 ≤ q → q < 4 → ∃ st', SomeSteps l.toNat (pre.length + 1) st' ∧ (∀ (a b : Nat), st'.getLast? = some (a, b) → at' = (b : Int)) ∧ st.map sD ++ [D.tup [.int (2 + q), .int at']] = st'.map sD := by
          intro q q0 q1
          refine ⟨st ++ [((2 + q).toNat, at'.toNat)], ⟨⟨fun p hp => ?_, altS_snoc hst.1.2 fun p hp z => c ?_⟩, ?_, fun p hp => ?_⟩, ?_, ?_⟩
          · rcases List.mem_append.mp hp with hp | hp
            · exact hst.1.1 p hp
            · rw [List.mem_singleton.mp hp]; exact ⟨by show 2 ≤ (2 + q).toNat; omega, by show at'.toNat < _; omega⟩
          · have := hb p hp; dsimp only at z; omega
          · have := hst.2.1; simp; omega
          · rcases List.mem_append.mp hp with hp | hp
            · exact hst.2.2 p hp
            · rw [List.mem_singleton.mp hp]; show (2 + q).toNat ≤ 5; omega
          · intro x y h; simp at h; omega
          · have e1 : ((2 + q).toNat : Int) = 2 + q := by omega
            have e2 : (at'.toNat : Int) = at' := by omega
            rw [List.map_append]; show _ = _ ++ [D.tup [.int (((2 + q).toNat : Nat) : Int), .int ((at'.toNat : Nat) : Int)]]; rw [e1, e2]
        exact ⟨fun q q0 q1 => ⟨hl, fin q q0 (by omega)⟩, fun q q0 q1 => ⟨hl, fin q q0 q1⟩⟩
    · rintro ρ ⟨st, b, hst, hb, rfl⟩
      simp -implicitDefEqProofs [l_neSelf, l_eqSelf, key_int, key_str, keyD, defM, initM, tail_mapS, take_mapS, drop_mapS, sl0, slI, lcAll_map, lcAll_rng, forL_map, forL_rng, -List.map_take, -List.map_drop, -List.map_tail, -List.map_reverse]
      rw [List.length_range] at hst
      exact ⟨st, ⟨hst.1, by have := hst.2.1; omega, hst.2.2⟩, rfl⟩
  · exact fun _ _ h => h.elim

/-- law_built(law_steps_here, law_lists_here); slots: 0 law_steps_here, 1 law_lists_here, 2 law_found, 3 law_rung, 4 law_wide, 5 law_at, 6 law_more, 7 law_turn, 8 law_k, 9 law_number -/
def b_law_built : SM := (mSeq (mPar 2 3 (mLc (mRng rg1 (mCons (mVar 1) mNil)) (fName 8) mYes (mTup (mCons (mC (.int 0)) mNil)) [8]) (mC (.int 1)))
  (mSeq (mFor (mItems (mVar 0)) (fTupN [4, 5]) (mSeq (mSet 6 (mLst mNil))
  (mSeq (mFor (mRng rg1 (mCons (mVar 4) mNil)) (fName 7) (mSet 6 (mBin fAdd (mVar 6) (mLc (mItems (mIxV 2 (mVar 5))) (fName 9) mYes (mBin fAdd (mBin fMul (mVar 7) (mVar 3)) (mVar 9)) [9]))) [7])
  (mSeq (mSetIx 2 (mVar 5) (mCallB fTuple (mCons (mCallB fSortedX (mCons (mVar 6) mNil)) mNil)))
  (mSet 3 (mBin fMul (mVar 3) (mVar 4)))))) [4, 5, 6, 7])
  (mRet (mCallB fTuple (mCons (mVar 2) mNil)))))
def f_law_built : FM := defM b_law_built [(Str.ofString "_law_steps_here"), (Str.ofString "_law_lists_here"), (Str.ofString "_law_found"), (Str.ofString "_law_rung"), (Str.ofString "_law_wide"), (Str.ofString "_law_at"), (Str.ofString "_law_more"), (Str.ofString "_law_turn"), (Str.ofString "_law_k"), (Str.ofString "_law_number")]
--@use lot lot2
theorem law_built_eq {st : List (Nat × Nat)} {m : Nat} (hm : m ≤ 40) (hs : ∀ p ∈ st, 2 ≤ p.1 ∧ p.2 < m) (hp : prodS st ≤ 100000) : f_law_built [tS st, .int m] = val (.d (tL (builtL st m).1)) := by
  (conv => { lhs; simp -implicitDefEqProofs [l_neSelf, l_eqSelf, key_int, key_str, keyD, defM, initM, tail_mapS, take_mapS, drop_mapS, sl0, slI, lcAll_map, lcAll_rng, forL_map, forL_rng, -List.map_take, -List.map_drop, -List.map_tail, -List.map_reverse, f_law_built, b_law_built] })
  rw [req_of (by omega)]
  rw [forL_endP (fun a : List (List Int) × Int => [some (.d (tS st)), some (.d (.int m)), some (.own (a.1.map tI)), some (.d (.int a.2)), none, none, none, none, none, none]) bstep (List.replicate m [0], 1)]
  · simp -implicitDefEqProofs [l_neSelf, l_eqSelf, key_int, key_str, keyD, defM, initM, tail_mapS, take_mapS, drop_mapS, sl0, slI, lcAll_map, lcAll_rng, forL_map, forL_rng, -List.map_take, -List.map_drop, -List.map_tail, -List.map_reverse]
    rfl
  · simp [List.map_const']
  · intro pre p post e
    have hpre : ∀ q ∈ pre, 2 ≤ q.1 ∧ q.2 < m := fun q hq => hs q (by rw [e]; simp [hq])
    have hp1 := hs p (by rw [e]; simp)
    have b : BOk m (builtL pre m) := built_ok hpre
    have hpr : prodS pre * p.1 ≤ 100000 := Nat.le_trans (prodS_pre (post := post) fun q hq => by have := (hs q (by rw [e]; simp [hq])).1; omega) (by rw [← e]; exact hp)
    have hp0 : 1 ≤ prodS pre := prodS_pos fun q hq => by have := (hpre q hq).1; omega
    have hpq : p.1 ≤ prodS pre * p.1 := Nat.le_mul_of_pos_left _ hp0
    have hpw : prodS pre ≤ prodS pre * p.1 := Nat.le_mul_of_pos_right _ (by omega)
    have hsn := built_snd (m := m) (st := pre)
    have hln := built_len_le (m := m) (st := pre) hpre
    rw [show pre.foldl bstep (List.replicate m [0], 1) = builtL pre m from rfl]
    generalize builtL pre m = a at *
    simp -implicitDefEqProofs [l_neSelf, l_eqSelf, key_int, key_str, keyD, defM, initM, tail_mapS, take_mapS, drop_mapS, sl0, slI, lcAll_map, lcAll_rng, forL_map, forL_rng, -List.map_take, -List.map_drop, -List.map_tail, -List.map_reverse]
    rw [req_of (by omega)]
    rw [forL_range (fun t => [some (.d (tS st)), some (.d (.int m)), some (.own (a.1.map tI)), some (.d (.int a.2)), some (.d (.int p.1)), some (.d (.int p.2)), some (.own ((stepL t a.2 (nth a.1 p.2)).map .int)), none, none, none])]
    · have srt : isort (stepL p.1 a.2 (nth a.1 p.2)) = stepL p.1 a.2 (nth a.1 p.2) := isort_id (stepL_below (by omega) (b.bel _ (nth_in (by rw [b.len]; exact hp1.2))) _).1.sorted
      simp -implicitDefEqProofs [l_neSelf, l_eqSelf, key_int, key_str, keyD, defM, initM, tail_mapS, take_mapS, drop_mapS, sl0, slI, lcAll_map, lcAll_rng, forL_map, forL_rng, -List.map_take, -List.map_drop, -List.map_tail, -List.map_reverse, srt, l_sIx (ds := a.1.map tI) (i := (p.2 : Int)) (by omega) (by rw [List.length_map, b.len]; omega), bstep]
      rw [req_of (mulOk_r ⟨by omega, by omega⟩)]
    · rfl
    · intro t ht
      simp -implicitDefEqProofs [l_neSelf, l_eqSelf, key_int, key_str, keyD, defM, initM, tail_mapS, take_mapS, drop_mapS, sl0, slI, lcAll_map, lcAll_rng, forL_map, forL_rng, -List.map_take, -List.map_drop, -List.map_tail, -List.map_reverse]
      have hn := hln _ (nth_in (l := a.1) (i := p.2) (by rw [b.len]; exact hp1.2))
      have ht2 : t * (nth a.1 p.2).length + (nth a.1 p.2).length ≤ 100000 := by
        have := Nat.mul_le_mul (show t + 1 ≤ p.1 by omega) hn
        rw [Nat.add_mul, Nat.one_mul, Nat.mul_comm p.1] at this
        omega
      rw [req_of ⟨by rw [b.len]; exact hp1.2, by omega, fun _ _ => mulOk_r ⟨by omega, by omega⟩, by rw [stepL_len]; omega⟩, stepL_succ]
      simp
theorem law_built_eqW {st : List (Nat × Nat)} {m : Nat} (hm : m ≤ 40) (hs : ∀ p ∈ st, 2 ≤ p.1 ∧ p.2 < m) (hp : prodS st < 2 ^ 60) (h40 : ∀ i, i < m → prodS (stepsAt i st) ≤ 40) : f_law_built [tS st, .int m] = val (.d (tL (builtL st m).1)) := by
  (conv => { lhs; simp -implicitDefEqProofs [l_neSelf, l_eqSelf, key_int, key_str, keyD, defM, initM, tail_mapS, take_mapS, drop_mapS, sl0, slI, lcAll_map, lcAll_rng, forL_map, forL_rng, -List.map_take, -List.map_drop, -List.map_tail, -List.map_reverse, f_law_built, b_law_built] })
  rw [req_of (by omega)]
  rw [forL_endP (fun a : List (List Int) × Int => [some (.d (tS st)), some (.d (.int m)), some (.own (a.1.map tI)), some (.d (.int a.2)), none, none, none, none, none, none]) bstep (List.replicate m [0], 1)]
  · simp -implicitDefEqProofs [l_neSelf, l_eqSelf, key_int, key_str, keyD, defM, initM, tail_mapS, take_mapS, drop_mapS, sl0, slI, lcAll_map, lcAll_rng, forL_map, forL_rng, -List.map_take, -List.map_drop, -List.map_tail, -List.map_reverse]
    rfl
  · simp [List.map_const']
  · intro pre p post e
    have hpre : ∀ q ∈ pre, 2 ≤ q.1 ∧ q.2 < m := fun q hq => hs q (by rw [e]; simp [hq])
    have hp1 := hs p (by rw [e]; simp)
    have b : BOk m (builtL pre m) := built_ok hpre
    have hpr : prodS pre * p.1 < 2 ^ 60 := Nat.lt_of_le_of_lt (prodS_pre (post := post) fun q hq => by have := (hs q (by rw [e]; simp [hq])).1; omega) (by rw [← e]; exact hp)
    have hp0 : 1 ≤ prodS pre := prodS_pos fun q hq => by have := (hpre q hq).1; omega
    have hpq : p.1 ≤ prodS pre * p.1 := Nat.le_mul_of_pos_left _ hp0
    have hpw : prodS pre ≤ prodS pre * p.1 := Nat.le_mul_of_pos_right _ (by omega)
    have ha : ∀ i, stepsAt i st = stepsAt i pre ++ (stepsAt i [p] ++ stepsAt i post) := fun i => by
      unfold stepsAt
      rw [← List.filter_append, ← List.filter_append, e]; rfl
    have hone : ∀ i, ∀ q ∈ stepsAt i post, 1 ≤ q.1 := fun i q hq => by
      have := (hs q (by rw [e]; exact List.mem_append_right _ (List.mem_cons_of_mem _ (List.mem_filter.mp hq).1))).1; omega
    have hpl : prodS (stepsAt p.2 pre) * p.1 ≤ 40 := by
      have h := h40 p.2 hp1.2
      have e1 : stepsAt p.2 [p] = [p] := by unfold stepsAt; simp
      rw [ha, e1, prodS_append, prodS_append] at h
      have h2 := prodS_pos (hone p.2)
      have e3 : prodS [p] = p.1 := by unfold prodS; simp
      rw [e3] at h
      have : prodS (stepsAt p.2 pre) * (p.1 * 1) ≤ prodS (stepsAt p.2 pre) * (p.1 * prodS (stepsAt p.2 post)) := Nat.mul_le_mul_left _ (Nat.mul_le_mul_left _ h2)
      rw [Nat.mul_one] at this
      omega
    have hlp := built_len (st := pre) (m := m) hp1.2 fun q hq => (hpre q hq).2
    have hsn := built_snd (m := m) (st := pre)
    have hln := built_len_le (m := m) (st := pre) hpre
    rw [show pre.foldl bstep (List.replicate m [0], 1) = builtL pre m from rfl]
    generalize builtL pre m = a at *
    simp -implicitDefEqProofs [l_neSelf, l_eqSelf, key_int, key_str, keyD, defM, initM, tail_mapS, take_mapS, drop_mapS, sl0, slI, lcAll_map, lcAll_rng, forL_map, forL_rng, -List.map_take, -List.map_drop, -List.map_tail, -List.map_reverse]
    rw [req_of (by omega)]
    rw [forL_range (fun t => [some (.d (tS st)), some (.d (.int m)), some (.own (a.1.map tI)), some (.d (.int a.2)), some (.d (.int p.1)), some (.d (.int p.2)), some (.own ((stepL t a.2 (nth a.1 p.2)).map .int)), none, none, none])]
    · have srt : isort (stepL p.1 a.2 (nth a.1 p.2)) = stepL p.1 a.2 (nth a.1 p.2) := isort_id (stepL_below (by omega) (b.bel _ (nth_in (by rw [b.len]; exact hp1.2))) _).1.sorted
      simp -implicitDefEqProofs [l_neSelf, l_eqSelf, key_int, key_str, keyD, defM, initM, tail_mapS, take_mapS, drop_mapS, sl0, slI, lcAll_map, lcAll_rng, forL_map, forL_rng, -List.map_take, -List.map_drop, -List.map_tail, -List.map_reverse, srt, l_sIx (ds := a.1.map tI) (i := (p.2 : Int)) (by omega) (by rw [List.length_map, b.len]; omega), bstep]
      rw [req_of (mulOk_r ⟨by omega, by omega⟩)]
    · rfl
    · intro t ht
      simp -implicitDefEqProofs [l_neSelf, l_eqSelf, key_int, key_str, keyD, defM, initM, tail_mapS, take_mapS, drop_mapS, sl0, slI, lcAll_map, lcAll_rng, forL_map, forL_rng, -List.map_take, -List.map_drop, -List.map_tail, -List.map_reverse]
      have ht2 : t * (nth a.1 p.2).length + (nth a.1 p.2).length ≤ 100000 := by
        have := Nat.mul_le_mul_right (nth a.1 p.2).length (show t + 1 ≤ p.1 by omega)
        rw [Nat.add_mul, Nat.one_mul, hlp, Nat.mul_comm p.1] at this
        rw [hlp]
        omega
      rw [req_of ⟨by rw [b.len]; exact hp1.2, by omega, fun _ _ => mulOk_r ⟨by omega, by omega⟩, by rw [stepL_len]; omega⟩, stepL_succ]
      simp

/-- law_shifted(law_jar_here, law_lists_here); slots: 0 law_jar_here, 1 law_lists_here, 2 law_found, 3 law_numbers_here, 4 law_by, 5 law_number -/
def b_law_shifted : SM := (mSeq (mSet 2 (mLst mNil))
  (mSeq (mFor (mItems (mVar 1)) (fName 3) (mSeq (mSet 4 (mCall 2 p_law_pick (mCons (mVar 0) (mCons (mLst (mCons (mC (.int 0)) (mCons (mBin fSub (mCall 2 p_law_dip (mCons (mVar 0) (mCons (mC (.int 19)) mNil))) (mC (.int 9))) (mCons (mBin fAdd (mBin fPow (mC (.int 10)) (mC (.int 25))) (mCall 2 p_law_dip (mCons (mVar 0) (mCons (mC (.int 1000)) mNil)))) mNil)))) mNil))))
  (mApp 2 (mCallB fTuple (mCons (mLc (mItems (mVar 3)) (fName 5) mYes (mBin fAdd (mVar 5) (mVar 4)) [5]) mNil)))) [3, 4])
  (mRet (mCallB fTuple (mCons (mVar 2) mNil)))))
def f_law_shifted : FM := defM b_law_shifted [(Str.ofString "_law_jar_here"), (Str.ofString "_law_lists_here"), (Str.ofString "_law_found"), (Str.ofString "_law_numbers_here"), (Str.ofString "_law_by"), (Str.ofString "_law_number")]
--@use lot
/-- each list moved by a number -/
def Moved (a b : List Int) : Prop := ∃ d : Int, (-(10 ^ 26) < d ∧ d < 10 ^ 26) ∧ b = a.map fun x => x + d
def p_law_shifted : FM := spec (fun ls => [.jar, tL ls]) (fun ls => ls.length ≤ 1000 ∧ ∀ l ∈ ls, l.length ≤ 100000) (fun ls ms => Paired Moved ls ms) fun ms => .d (tL ms)
@[simp] theorem law_shifted_eq {ls : List (List Int)} : p_law_shifted [.jar, tL ls] = ((M.any fun ms : List (List Int) => Paired Moved ls ms).bind fun ms => val (.d (tL ms))).req (ls.length ≤ 1000 ∧ ∀ l ∈ ls, l.length ≤ 100000) :=
  spec_eq (fun _ _ h => tL_inj (by simpa using h)) ls
theorem Paired.snoc {α β : Type} {R : α → β → Prop} {a : α} {b : β} (h : R a b) : ∀ {xs : List α} {ys : List β}, Paired R xs ys → Paired R (xs ++ [a]) (ys ++ [b])
  | _, _, .nil => .cons h .nil
  | _, _, .cons h1 h2 => .cons h1 (Paired.snoc h h2)
theorem o_law_shifted : ∀ ds : List D, ds.length = 2 → (f_law_shifted ds).le (p_law_shifted ds) := by
  refine fun ds _ => spec_le (fun ls ⟨h1, h2⟩ => ?_) ds
  simp -implicitDefEqProofs [l_neSelf, l_eqSelf, key_int, key_str, keyD, defM, initM, tail_mapS, take_mapS, drop_mapS, sl0, slI, lcAll_map, lcAll_rng, forL_map, forL_rng, -List.map_take, -List.map_drop, -List.map_tail, -List.map_reverse, f_law_shifted, b_law_shifted]
  refine sat_forP (fun pre ρ => ∃ ms, Paired Moved pre ms ∧ ρ = [some (S.d D.jar), some (S.d (tL ls)), some (S.own (ms.map tI)), none, none, none]) ⟨[], .nil, rfl⟩ ?_ ?_
  · rintro pre a post ρ e ⟨ms, hp, rfl⟩
    simp -implicitDefEqProofs [l_neSelf, l_eqSelf, key_int, key_str, keyD, defM, initM, tail_mapS, take_mapS, drop_mapS, sl0, slI, lcAll_map, lcAll_rng, forL_map, forL_rng, -List.map_take, -List.map_drop, -List.map_tail, -List.map_reverse]
    have ha : a.length ≤ 100000 := h2 a (by rw [e]; simp)
    have hm : ms.length ≤ 1000 := by have := hp.length; have := congrArg List.length e; simp at this; omega
    have fin : ∀ d : Int, (-(10 ^ 26) < d ∧ d < 10 ^ 26) → ∀ es : List D, es = a.map (fun x => D.int (x + d)) → ∃ ms', Paired Moved (pre ++ [a]) ms' ∧ ms.map tI ++ [D.tup es] = ms'.map tI := fun d hd es he =>
      ⟨ms ++ [a.map fun x => x + d], hp.snoc ⟨d, hd, rfl⟩, by rw [he]; simp⟩
    exact fun b b0 b1 c c0 c1 => ⟨⟨by omega, by omega, fin 0 (by decide) _ (by simp)⟩, ⟨by omega, by omega, fin (b - 9) (by omega) _ rfl⟩, by omega, by omega, fin (10000000000000000000000000 + c) (by omega) _ rfl⟩
  · rintro ρ ⟨ms, hp, rfl⟩
    simp -implicitDefEqProofs [l_neSelf, l_eqSelf, key_int, key_str, keyD, defM, initM, tail_mapS, take_mapS, drop_mapS, sl0, slI, lcAll_map, lcAll_rng, forL_map, forL_rng, -List.map_take, -List.map_drop, -List.map_tail, -List.map_reverse]
    exact ⟨ms, hp, rfl⟩

/-- law_any_lot(law_jar_here); slots: 0 law_jar_here, 1 law_many, 2 law_found, 3 law_at, 4 law_spoiled, 5 law_k -/
def b_law_any_lot_1 : SM := (mRet (mVar 2))
def b_law_any_lot : SM := (mSeq (mSet 1 (mBin fAdd (mC (.int 1)) (mCall 2 p_law_dip (mCons (mVar 0) (mCons (mC (.int 4)) mNil)))))
  (mSeq (mIf (mB (mBin fEq (mCall 2 p_law_dip (mCons (mVar 0) (mCons (mC (.int 3)) mNil))) (mC (.int 0)))) (mRet (mCallB fTuple (mCons (mLc (mRng rg1 (mCons (mVar 1) mNil)) (fName 5) mYes (mCall 3 p_law_some_list (mCons (mVar 0) (mCons (mC (.int 4)) (mCons (mC (.int 9)) mNil)))) [5]) mNil))) mNext)
  (mSeq (mSet 2 (mCall 2 p_law_shifted (mCons (mVar 0) (mCons (mCall 2 f_law_built (mCons (mCall 3 p_law_steps_of (mCons (mVar 0) (mCons (mVar 1) (mCons (mC (.int 4)) mNil)))) (mCons (mVar 1) mNil))) mNil))))
  (mSeq (mSet 3 (mCall 2 p_law_dip (mCons (mVar 0) (mCons (mVar 1) mNil))))
  (mSeq (mIf (mB (mBin fEq (mCall 2 p_law_dip (mCons (mVar 0) (mCons (mC (.int 3)) mNil))) (mC (.int 0)))) (mSeq (mSet 4 (mCallB fSortedSet (mCons (mBin fAdd (mCallB fList (mCons (mSl (mIxV 2 (mVar 3)) (mPart (mC (.int 1))) mNoP) mNil)) (mLst (mCons (mBin fAdd (mBin fIx (mIxV 2 (mVar 3)) (mC (.int 0))) (mCall 2 p_law_dip (mCons (mVar 0) (mCons (mC (.int 12)) mNil)))) mNil))) mNil)))
  (mSet 2 (mBin fAdd (mBin fAdd (mSl (mVar 2) mNoP (mPart (mVar 3))) (mTup (mCons (mCallB fTuple (mCons (mVar 4) mNil)) mNil))) (mSl (mVar 2) (mPart (mBin fAdd (mVar 3) (mC (.int 1)))) mNoP)))) mNext)
  b_law_any_lot_1)))))
def f_law_any_lot : FM := defM b_law_any_lot [(Str.ofString "_law_jar_here"), (Str.ofString "_law_many"), (Str.ofString "_law_found"), (Str.ofString "_law_at"), (Str.ofString "_law_spoiled"), (Str.ofString "_law_k")]
--@use lot2
def p_law_any_lot : FM := spec (fun _ : Unit => [.jar]) (fun _ => True) (fun _ ls => LotSm ls) fun ls => .d (tL ls)
@[simp] theorem law_any_lot_eq : p_law_any_lot [.jar] = ((M.any LotSm).bind fun ls => val (.d (tL ls))) := (spec_eq (fun _ _ _ => rfl) ()).trans (req_of trivial)
theorem any_lot_shift {m : Nat} {st : List (Nat × Nat)} {ms : List (List Int)} (hm : 1 ≤ m ∧ m ≤ 4) (hs : SomeSteps m 4 st) (h : Paired Moved (builtL st m).1 ms) :
    ms.length = m ∧ sizeL ms ≤ 625 ∧ ∀ l ∈ ms, l ≠ [] ∧ l.length ≤ 25 ∧ Asc l ∧ ∀ x ∈ l, -(10 ^ 27) < x ∧ x < 10 ^ 27 := by
  have b := built_ok hs.1.1
  have hp : prodS st ≤ 625 := Nat.le_trans (prodS_le hs.2.2) (Nat.le_trans (Nat.pow_le_pow_right (by decide) hs.2.1) (by decide))
  refine ⟨by rw [← h.length, b.len], ?_, fun l hl => ?_⟩
  · rw [paired_size (fun a c ⟨d, _, e⟩ => by rw [e, List.length_map]) h, built_size hs.1.1]; exact hp
  · obtain ⟨a, ha, d, hd, rfl⟩ := Paired.mem h l hl
    have hb := b.bel a ha
    rw [built_snd] at hb
    refine ⟨fun e => b.nonempty a ha (List.map_eq_nil_iff.mp e), ?_, asc_add hb.1, fun x hx => ?_⟩
    · rw [List.length_map]
      have : st.length ≤ 4 := hs.2.1
      exact Nat.le_trans (built_each hs.1 hs.2.2 (by decide) ha) (Nat.le_trans (Nat.pow_le_pow_right (by decide) (show (st.length + 1) / 2 ≤ 2 by omega)) (by decide))
    · obtain ⟨y, hy, rfl⟩ := List.mem_map.mp hx
      have := hb.2 y hy
      omega
theorem any_lot_sm {ms : List (List Int)} (h0 : 1 ≤ ms.length ∧ ms.length ≤ 4) (h1 : sizeL ms ≤ 625) (h2 : ∀ l ∈ ms, l ≠ [] ∧ l.length ≤ 25 ∧ Asc l ∧ ∀ x ∈ l, -(10 ^ 28) < x ∧ x < 10 ^ 28) : LotSm ms :=
  ⟨⟨by omega, fun l hl => ⟨(h2 l hl).1, by have := (h2 l hl).2.1; omega, (h2 l hl).2.2.1⟩⟩, by omega, h0.2, fun l hl x hx => by have := (h2 l hl).2.2.2 x hx; omega⟩
theorem o_law_any_lot : ∀ ds : List D, ds.length = 1 → (f_law_any_lot ds).le (p_law_any_lot ds) := by
  refine fun ds _ => spec_le (fun _ _ => ?_) ds
  simp -implicitDefEqProofs [l_neSelf, l_eqSelf, key_int, key_str, keyD, defM, initM, tail_mapS, take_mapS, drop_mapS, sl0, slI, lcAll_map, lcAll_rng, forL_map, forL_rng, -List.map_take, -List.map_drop, -List.map_tail, -List.map_reverse, f_law_any_lot, b_law_any_lot]
  intro a a0 a1 b b0 b1
  obtain ⟨k, rfl⟩ := Int.eq_ofNat_of_zero_le a0
  by_cases c : b = 0
  · simp -implicitDefEqProofs [l_neSelf, l_eqSelf, key_int, key_str, keyD, defM, initM, tail_mapS, take_mapS, drop_mapS, sl0, slI, lcAll_map, lcAll_rng, forL_map, forL_rng, -List.map_take, -List.map_drop, -List.map_tail, -List.map_reverse, c]
    refine ⟨⟨⟨by omega, by omega⟩, by omega⟩, fun xs hl hx => ⟨xs, any_lot_sm (by omega) ?_ fun l hl => ?_, rfl⟩⟩
    · exact Nat.le_trans (sizeL_le fun l hl => (hx l hl).1.2.1) (Nat.le_trans (Nat.pow_le_pow_right (by decide) (show xs.length ≤ 4 by omega)) (by decide))
    · obtain ⟨⟨h1, h2, h3, h4⟩, _⟩ := hx l hl
      exact ⟨h1, by omega, h3, fun x hx => by have := h4 x hx; omega⟩
  · simp -implicitDefEqProofs [l_neSelf, l_eqSelf, key_int, key_str, keyD, defM, initM, tail_mapS, take_mapS, drop_mapS, sl0, slI, lcAll_map, lcAll_rng, forL_map, forL_rng, -List.map_take, -List.map_drop, -List.map_tail, -List.map_reverse, c]
    refine ⟨by omega, fun st hst => ?_⟩
    have e1 : (1 + (k : Int)) = ((1 + k : Nat) : Int) := by omega
    have e2 : (1 + (k : Int)).toNat = 1 + k := by omega
    rw [e2] at hst
    have hp : prodS st ≤ 625 := Nat.le_trans (prodS_le hst.2.2) (Nat.le_trans (Nat.pow_le_pow_right (by decide) hst.2.1) (by decide))
    have hb := law_built_eq (m := 1 + k) (by omega) hst.1.1 (by omega)
    rw [← e1] at hb
    have hk := built_ok hst.1.1
    simp -implicitDefEqProofs [l_neSelf, l_eqSelf, key_int, key_str, keyD, defM, initM, tail_mapS, take_mapS, drop_mapS, sl0, slI, lcAll_map, lcAll_rng, forL_map, forL_rng, -List.map_take, -List.map_drop, -List.map_tail, -List.map_reverse, hb]
    refine ⟨⟨by rw [hk.len]; omega, fun l hl => by have := built_len_le hst.1.1 l hl; omega⟩, fun ms hms => ⟨⟨by omega, by omega⟩, fun at' h0 h1 c' c0 c1 => ?_⟩⟩
    obtain ⟨g1, g2, g3⟩ := any_lot_shift (by omega) hst hms
    by_cases cc : c' = 0
    · have hi : at' < (ms.length : Int) := by omega
      have hi' : at'.toNat < ms.length := by omega
      have hn := g3 _ (nth_in hi')
      simp -implicitDefEqProofs [l_neSelf, l_eqSelf, key_int, key_str, keyD, defM, initM, tail_mapS, take_mapS, drop_mapS, sl0, slI, lcAll_map, lcAll_rng, forL_map, forL_rng, -List.map_take, -List.map_drop, -List.map_tail, -List.map_reverse, cc, ixM_in h0 hi, h0, show (0 : Int) ≤ at' + 1 by omega, b_law_any_lot_1]
      have hpos : 0 < (nth ms at'.toNat).length := List.length_pos_iff.mpr hn.1
      refine ⟨hpos, fun a p0 p1 => ⟨⟨by omega, by omega, by omega, by omega⟩, ms.set at'.toNat (usort ((nth ms at'.toNat).tail ++ [nth (nth ms at'.toNat) 0 + a])), ?_, ?_⟩⟩
      · have hlen : (usort ((nth ms at'.toNat).tail ++ [nth (nth ms at'.toNat) 0 + a])).length ≤ (nth ms at'.toNat).length := by
          refine Nat.le_trans (usort_len _) ?_
          rw [List.length_append, List.length_tail, List.length_singleton]; omega
        refine any_lot_sm (by rw [List.length_set]; omega) (Nat.le_trans (sizeL_set_le hi' hlen) g2) fun l hl => ?_
        rcases mem_set_or hl with rfl | hl
        · refine ⟨fun z => ?_, by omega, usort_sorted _, fun x hx => ?_⟩
          · have : nth (nth ms at'.toNat) 0 + a ∈ usort ((nth ms at'.toNat).tail ++ [nth (nth ms at'.toNat) 0 + a]) := usort_mem.mpr (by simp)
            rw [z] at this; cases this
          · rcases List.mem_append.mp (usort_mem.mp hx) with hx | hx
            · have := hn.2.2.2 x (List.mem_of_mem_tail hx); omega
            · rw [List.mem_singleton.mp hx]; have := hn.2.2.2 _ (nth_in (l := nth ms at'.toNat) (i := 0) hpos); omega
        · exact ⟨(g3 l hl).1, (g3 l hl).2.1, (g3 l hl).2.2.1, fun x hx => by have := (g3 l hl).2.2.2 x hx; omega⟩
      · rw [← take_set hi', List.map_append, List.map_cons, show (at' + 1).toNat = at'.toNat + 1 by omega]
    · simp -implicitDefEqProofs [l_neSelf, l_eqSelf, key_int, key_str, keyD, defM, initM, tail_mapS, take_mapS, drop_mapS, sl0, slI, lcAll_map, lcAll_rng, forL_map, forL_rng, -List.map_take, -List.map_drop, -List.map_tail, -List.map_reverse, cc, b_law_any_lot_1]
      exact ⟨ms, any_lot_sm (by omega) g2 fun l hl => ⟨(g3 l hl).1, (g3 l hl).2.1, (g3 l hl).2.2.1, fun x hx => by have := (g3 l hl).2.2.2 x hx; omega⟩, rfl⟩

/-- law_odd(law_jar_here); slots: 0 law_jar_here, 1 law_menu -/
def b_law_odd : SM := (mSeq (mSet 1 (mLst (mCons (mC .non) (mCons (mC (.bl true)) (mCons (mC (.bl false)) (mCons (mC (.int 0)) (mCons (mC (.int 1)) (mCons (mUn fNeg (mC (.int 1))) (mCons (mC (.int 2)) (mCons (mBin fPow (mC (.int 10)) (mC (.int 30))) (mCons (mC (.str (Str.ofString ""))) (mCons (mC (.str (Str.ofString "0"))) mNil))))))))))))
  (mSeq (mSet 1 (mBin fAdd (mVar 1) (mLst (mCons (mC (.str (Str.ofString "0 1"))) (mCons (mC (.str (Str.ofString "a"))) (mCons (mTup mNil) (mCons (mTup (mCons (mC (.int 0)) mNil)) (mCons (mTup (mCons (mC (.int 0)) (mCons (mC (.int 1)) mNil))) (mCons (mTup (mCons (mC (.int 1)) (mCons (mC (.int 0)) mNil))) (mCons (mLst (mCons (mC (.int 0)) (mCons (mC (.int 1)) mNil))) (mCons (mLst mNil) (mCons mDic0 mNil))))))))))))
  (mRet (mCall 2 p_law_pick (mCons (mVar 0) (mCons (mBin fAdd (mVar 1) (mLst (mCons (mTup (mCons (mC (.bl true)) (mCons (mC (.int 2)) mNil))) (mCons (mTup (mCons (mTup (mCons (mC (.int 0)) (mCons (mC (.int 1)) mNil))) mNil)) (mCons (mTup (mCons (mTup (mCons (mTup (mCons (mC (.int 0)) (mCons (mC (.int 1)) mNil))) mNil)) mNil)) (mCons (mTup (mCons (mC .non) (mCons (mC (.int 0)) mNil))) (mCons (mDicS (Str.ofString "0") 1) (mCons (mTup (mCons (mTup (mCons (mC (.int 2)) (mCons (mC (.int 0)) mNil))) mNil)) (mCons (mLst (mCons (mLst mNil) mNil)) (mCons (mTup (mCons (mTup mNil) mNil)) (mCons (mC (.str (Str.ofString "0 1\n0 2"))) mNil))))))))))) mNil))))))
def f_law_odd : FM := defM b_law_odd [(Str.ofString "_law_jar_here"), (Str.ofString "_law_menu")]
--@use vald sok
def oddM : List D := [.non, .bl true, .bl false, .int 0, .int 1, .int (-1), .int 2, .int 1000000000000000000000000000000, .str "", .str "0", .str "0 1", .str "a", .tup [], .tup [.int 0], .tup [.int 0, .int 1], .tup [.int 1, .int 0], .lst [.int 0, .int 1], .lst [], .dic [], .tup [.bl true, .int 2], .tup [.tup [.int 0, .int 1]], .tup [.tup [.tup [.int 0, .int 1]]], .tup [.non, .int 0], .dic [(.inr "0", .int 1)], .tup [.tup [.int 2, .int 0]], .lst [.lst []], .tup [.tup []], .str "0 1\n0 2"]
theorem two {a b : D} (h : El a) (h' : El b) : ValD (.tup [a, b]) := .tup (by simp) fun x hx => by
  simp only [List.mem_cons, List.mem_nil_iff, or_false] at hx
  rcases hx with rfl | rfl
  · exact h
  · exact h'
theorem oddM_ok {d : D} (h : d ∈ oddM) : ValD d := by
  unfold oddM at h
  simp only [List.mem_cons, List.mem_nil_iff, or_false] at h
  rcases h with rfl | rfl | rfl | rfl | rfl | rfl | rfl | rfl | rfl | rfl | rfl | rfl | rfl | rfl | rfl | rfl | rfl | rfl | rfl | rfl | rfl | rfl | rfl | rfl | rfl | rfl | rfl | rfl <;> first
    | exact .other rfl rfl
    | exact .tup (Nat.zero_le _) (fun x hx => absurd hx List.not_mem_nil)
    | exact .tup (by simp) (fun x hx => by rw [List.mem_singleton.mp hx]; exact .other rfl rfl eqOk_int)
    | exact two (.other rfl rfl eqOk_int) (.other rfl rfl eqOk_int)
    | exact two (.other rfl rfl eqOk_bl) (.other rfl rfl eqOk_int)
    | exact two (.other rfl rfl eqOk_non) (.other rfl rfl eqOk_int)
    | exact .tup (by simp) (fun x hx => by rw [List.mem_singleton.mp hx]; exact .ints (ns := [0, 1]) (by simp))
    | exact .tup (by simp) (fun x hx => by rw [List.mem_singleton.mp hx]; exact .ints (ns := [2, 0]) (by simp))
    | exact .tup (by simp) (fun x hx => by rw [List.mem_singleton.mp hx]; exact .ints (ns := []) (by simp))
    | exact .tup (by simp) (fun x hx => by rw [List.mem_singleton.mp hx]; exact .tup (by simp) (fun y hy => by rw [List.mem_singleton.mp hy]; exact ⟨rfl, by rw [eqOk_tup (n := 57), eqOkA_cons, eqOkA_cons]; exact ⟨eqOk_int, eqOk_int, eqOkA_nil⟩⟩))
def p_law_odd : FM := spec (fun _ : Unit => [.jar]) (fun _ => True) (fun _ d => d ∈ oddM) fun d => .d d
@[simp] theorem law_odd_eq : p_law_odd [.jar] = ((M.any fun d : D => d ∈ oddM).bind fun d => val (.d d)) := (spec_eq (fun _ _ _ => rfl) ()).trans (req_of trivial)
theorem o_law_odd : ∀ ds : List D, ds.length = 1 → (f_law_odd ds).le (p_law_odd ds) := by
  refine fun ds _ => spec_le (fun _ _ => ?_) ds
  simp -implicitDefEqProofs [l_neSelf, l_eqSelf, key_int, key_str, keyD, defM, initM, tail_mapS, take_mapS, drop_mapS, sl0, slI, lcAll_map, lcAll_rng, forL_map, forL_rng, -List.map_take, -List.map_drop, -List.map_tail, -List.map_reverse, f_law_odd, b_law_odd, -List.mem_cons]
  intro d hd
  exact hd

/-- law_bases(law_e); slots: 0 law_e, 1 law_found -/
def b_law_bases : SM := (mSeq (mSet 1 (mLst (mCons (mAndV (mXis xist (Str.ofString "WrongValue") (mVar 0)) (mXis xist (Str.ofString "ValueError") (mVar 0))) mNil)))
  (mSeq (mApp 1 (mAndV (mXis xist (Str.ofString "WrongName") (mVar 0)) (mXis xist (Str.ofString "LookupError") (mVar 0))))
  (mRet (mBin fAdd (mVar 1) (mLst (mCons (mAndV (mXis xist (Str.ofString "NotPossible") (mVar 0)) (mXis xist (Str.ofString "ArithmeticError") (mVar 0))) mNil))))))
def f_law_bases : FM := defM b_law_bases [(Str.ofString "_law_e"), (Str.ofString "_law_found")]
-- law_bases: its facts stand with law_shown

/-- law_shown(law_e); slots: 0 law_e -/
def b_law_shown : SM := (mRet (mLst (mCons (mIfE (mAnd (mB (mXis xist (Str.ofString "InvalidText") (mVar 0))) (mB (mBin fEq (mCallH 1 f_law_bases (mCons (mVar 0) mNil)) (mLst (mCons (mC (.bl true)) (mCons (mC (.bl false)) (mCons (mC (.bl false)) mNil))))))) (mC (.str (Str.ofString "text"))) (mC (.str (Str.ofString "odd")))) (mCons (mCallB fReprX (mCons (mXf xfld (Str.ofString "given") (mVar 0)) mNil)) mNil))))
def f_law_shown : FM := defM b_law_shown [(Str.ofString "_law_e")]
--@use sok2
theorem law_bases_InvalidText {fs : List (Str × D)} : f_law_bases [.exc "InvalidText" fs] = val (.own [.bl true, .bl false, .bl false]) := by
  have h0 : xist.look "InvalidText" "WrongValue" = some true := by decide +kernel
  have h1 : xist.look "InvalidText" "ValueError" = some true := by decide +kernel
  have h2 : xist.look "InvalidText" "WrongName" = some false := by decide +kernel
  have h3 : xist.look "InvalidText" "NotPossible" = some false := by decide +kernel
  (conv => { lhs; simp -implicitDefEqProofs [l_neSelf, l_eqSelf, key_int, key_str, keyD, defM, initM, tail_mapS, take_mapS, drop_mapS, sl0, slI, lcAll_map, lcAll_rng, forL_map, forL_rng, -List.map_take, -List.map_drop, -List.map_tail, -List.map_reverse, f_law_bases, b_law_bases, xis_eq h0, xis_eq h1, xis_eq h2, xis_eq h3] })
theorem law_shown_InvalidText {d : D} {s : Str} (h : M.lift (fReprX [d]) = M.one (.d (.str s))) : f_law_shown [.exc "InvalidText" [("given", d)]] = val (.own [.str "text", .str s]) := by
  have h0 : xist.look "InvalidText" "InvalidText" = some true := by decide +kernel
  have e := law_bases_InvalidText (fs := [("given", d)])
  have hx : xfM xfld "given" (.exc "InvalidText" [("given", d)]) = val (.d d) := xf_eq (by decide +kernel) (by simp [List.lookup])
  (conv => { lhs; simp -implicitDefEqProofs [l_neSelf, l_eqSelf, key_int, key_str, keyD, defM, initM, tail_mapS, take_mapS, drop_mapS, sl0, slI, lcAll_map, lcAll_rng, forL_map, forL_rng, -List.map_take, -List.map_drop, -List.map_tail, -List.map_reverse, f_law_shown, b_law_shown, xis_eq h0, e, hx, h] })

/-- law_caught(law_act); slots: 0 law_act, 1 law_told, 2 law_e -/
def b_law_caught (fa : Addr) (m : M (Oc S)) : SM := (mSeq (mTry xtab xown (mSet 1 (mAct 0 fa m)) [⟨[(Str.ofString "WrongValue"), (Str.ofString "WrongName"), (Str.ofString "NotPossible")], (some 2), (mRet (mCallH 1 f_law_shown (mCons (mVar 2) mNil)))⟩])
  (mRet (mLst (mCons (mC (.str (Str.ofString "told"))) (mCons (mVar 1) mNil)))))
def f_law_caught : Addr → M (Oc S) → M (Oc S) := defL b_law_caught [(Str.ofString "_law_act"), (Str.ofString "_law_told"), (Str.ofString "_law_e")]
/-- what a call tells: told, or what is shown of its exception -/
def caughtW (m : M (Oc S)) : M (Oc S) := m.bind fun r => r.elim (fun s => val (.own [.str "told", s.frz])) fun e =>
  xcase (xtab.any e.cls ["WrongValue", "WrongName", "NotPossible"]) (if e.cls ∈ xown then (f_law_shown [.exc e.cls e.fs]).bind fun a => a.elim (fun s => val s) (fun _ => M.bad) else M.bad) (exn e)
@[simp] theorem law_caught_eqx (fa : Addr) (m : M (Oc S)) : f_law_caught fa m = caughtW m := by
  have q : ∀ (e : Exn) (ρ : Sl) (k : Sl → MS), out (bindN (if e.cls ∈ xown then (f_law_shown [D.exc e.cls e.fs]).bind fun a => suite1 (bindES (put (a.elim (fun s => val s) fun x => M.bad) ρ) fun s x => rt s) else M.bad) k) = if e.cls ∈ xown then (f_law_shown [.exc e.cls e.fs]).bind fun a => a.elim (fun s => val s) (fun _ => M.bad) else M.bad := by
    intro e ρ k
    by_cases h : e.cls ∈ xown
    · rw [if_pos h, if_pos h]
      show ((f_law_shown [D.exc e.cls e.fs]).bind fun a => out (bindN (suite1 (bindES (put (a.elim (fun s => val s) fun x => M.bad) ρ) fun s x => rt s)) k)) = _
      congr 1
      funext a
      cases a <;> rfl
    · rw [if_neg h, if_neg h]; rfl
  (conv => { lhs; simp -implicitDefEqProofs [l_neSelf, l_eqSelf, key_int, key_str, keyD, defM, initM, tail_mapS, take_mapS, drop_mapS, sl0, slI, lcAll_map, lcAll_rng, forL_map, forL_rng, -List.map_take, -List.map_drop, -List.map_tail, -List.map_reverse, f_law_caught, b_law_caught, defL, varM_any, q] })
  rfl
@[simp] theorem caught_val {s : S} : caughtW (val s) = val (.own [.str "told", s.frz]) := rfl

/-- law_is_list(law_value); slots: 0 law_value, 1 law_number -/
def b_law_is_list : SM := (mSeq (mIf (mOr (mNot (mB (mCallB fIsi (mCons (mVar 0) (mCons (mC (.v (.ty "tuple"))) mNil))))) (mNot (mB (mChain fLt fLt (mC (.int 0)) (mCallB fLen (mCons (mVar 0) mNil)) (mC (.int 41)))))) (mRet (mC (.bl false))) mNext)
  (mSeq (mIf (mB (mBin fNe (mLc (mItems (mVar 0)) (fName 1) (mOr (mNot (mB (mCallB fIsi (mCons (mVar 1) (mCons (mC (.v (.ty "int"))) mNil))))) (mB (mCallB fIsi (mCons (mVar 1) (mCons (mC (.v (.ty "bool"))) mNil))))) (mVar 1) [1]) (mLst mNil))) (mRet (mC (.bl false))) mNext)
  (mRet (mBin fEq (mCallB fList (mCons (mVar 0) mNil)) (mCallB fSortedSetT (mCons (mVar 0) mNil))))))
def f_law_is_list : FM := defM b_law_is_list [(Str.ofString "_law_value"), (Str.ofString "_law_number")]
--@use vald
theorem law_is_list_tI {ns : List Int} (h100 : ns.length ≤ 400) : f_law_is_list [tI ns] = val (.d (.bl (isListI ns))) := by
  have hn0 : M.lift (fNe (.lst []) (.lst [])) = M.one (.d (.bl false)) := by rw [l_neL0E (by rw [eqOk_lst (n := 59)]; exact eqOkA_nil)]; rfl
  have hfm : ∀ ms : List Int, ms.flatMap (fun _ => ([] : List D)) = [] := fun ms => by induction ms with
    | nil => rfl
    | cons a l ih => rw [List.flatMap_cons, ih]; rfl
  have hlc : lcAll (fun _ : Int => M.one ([] : List D)) ns = M.one [] := by rw [lcAll_one (h := fun _ : Int => ([] : List D)), hfm]
  by_cases c1 : 0 < ns.length
  · have hne : ns ≠ [] := List.length_pos_iff.mp c1
    by_cases c2 : ns.length < 41
    · have c1' : (0 : Int) < ns.length := by omega
      have c2' : (ns.length : Int) < 41 := by omega
      have hss : M.lift (fSortedSetT [.tup (ns.map .int)]) = M.one (.own ((usort ns).map .int)) := by rw [l_sortedSetT, req_of (by omega)]
      (conv => { lhs; simp -implicitDefEqProofs [l_neSelf, l_eqSelf, key_int, key_str, keyD, defM, initM, tail_mapS, take_mapS, drop_mapS, sl0, slI, lcAll_map, lcAll_rng, forL_map, forL_rng, -List.map_take, -List.map_drop, -List.map_tail, -List.map_reverse, f_law_is_list, b_law_is_list, c1', c2', hss] })
      rw [if_neg hne, req_of (by omega), hlc]
      (conv => { lhs; simp -implicitDefEqProofs [l_neSelf, l_eqSelf, key_int, key_str, keyD, defM, initM, tail_mapS, take_mapS, drop_mapS, sl0, slI, lcAll_map, lcAll_rng, forL_map, forL_rng, -List.map_take, -List.map_drop, -List.map_tail, -List.map_reverse, hn0, hss] })
      refine val_bl ?_
      simp only [decide_eq_true_eq]
      constructor
      · intro e
        exact ⟨hne, by omega, by rw [e]; exact usort_sorted ns⟩
      · intro q
        exact (usort_id q.2.2).symm
    · have c2' : ¬ (ns.length : Int) < 41 := by omega
      have hb : isListI ns = false := decide_eq_false fun q => by have := q.2.1; omega
      rw [hb]
      (conv => { lhs; simp -implicitDefEqProofs [l_neSelf, l_eqSelf, key_int, key_str, keyD, defM, initM, tail_mapS, take_mapS, drop_mapS, sl0, slI, lcAll_map, lcAll_rng, forL_map, forL_rng, -List.map_take, -List.map_drop, -List.map_tail, -List.map_reverse, f_law_is_list, b_law_is_list, c2'] })
  · have hne : ns = [] := List.length_eq_zero_iff.mp (by omega)
    subst hne
    (conv => { lhs; simp -implicitDefEqProofs [l_neSelf, l_eqSelf, key_int, key_str, keyD, defM, initM, tail_mapS, take_mapS, drop_mapS, sl0, slI, lcAll_map, lcAll_rng, forL_map, forL_rng, -List.map_take, -List.map_drop, -List.map_tail, -List.map_reverse, f_law_is_list, b_law_is_list] })
    rfl
theorem law_is_list_gen {e : D} (h : Ls e) : f_law_is_list [e] = val (.d (.bl (listD e))) := by
  have hk := h.kn
  cases ht : e.isT with
  | false =>
    have eb : listD e = false := by cases e <;> first | rfl | cases ht
    rw [eb]
    (conv => { lhs; simp -implicitDefEqProofs [l_neSelf, l_eqSelf, key_int, key_str, keyD, defM, initM, tail_mapS, take_mapS, drop_mapS, sl0, slI, lcAll_map, lcAll_rng, forL_map, forL_rng, -List.map_take, -List.map_drop, -List.map_tail, -List.map_reverse, f_law_is_list, b_law_is_list, l_isi_tup hk, ht] })
  | true =>
    obtain ⟨ds, rfl⟩ := isT_tupE ht
    obtain ⟨hl, he⟩ := h.el ds rfl
    cases ha : ds.all D.isI with
    | true =>
      have eb : listD (.tup ds) = isListI (ds.map intE) := by show (ds.all D.isI && _) = _; rw [ha, Bool.true_and]
      rw [eb]
      have e1 := law_is_list_tI (ns := ds.map intE) (by rw [List.length_map]; exact hl)
      have e2 : tI (ds.map intE) = .tup ds := by show D.tup ((ds.map intE).map .int) = _; rw [← ints_all ha]
      rw [e2] at e1
      exact e1
    | false =>
      have eb : listD (.tup ds) = false := by show (ds.all D.isI && _) = _; rw [ha, Bool.false_and]
      rw [eb]
      (conv => { lhs; simp -implicitDefEqProofs [l_neSelf, l_eqSelf, key_int, key_str, keyD, defM, initM, tail_mapS, take_mapS, drop_mapS, sl0, slI, lcAll_map, lcAll_rng, forL_map, forL_rng, -List.map_take, -List.map_drop, -List.map_tail, -List.map_reverse, f_law_is_list, b_law_is_list] })
      by_cases c1 : ds = [] ∨ 41 ≤ (ds.length : Int)
      · rw [if_pos c1]
      · rw [if_neg c1, req_of (by omega)]
        have hflt : (ds.filter fun a => decide (a.isI = false)).map id = ds.filter fun a => !a.isI := by
          rw [List.map_id]; congr 1; funext a; cases a.isI <;> rfl
        have hstep : lcAll (lcT (fName 1) (mOr (mNot (mB (mCallB fIsi (mCons (mVar 1) (mCons (mC (D.v (V.ty "int"))) mNil))))) (mB (mCallB fIsi (mCons (mVar 1) (mCons (mC (D.v (V.ty "bool"))) mNil))))) (mVar 1) [some (.d (.tup ds)), none]) ds = M.one (ds.filter fun a => !a.isI) := by
          rw [← hflt]
          refine (lcAll_congr (step' := fun a => if a.isI = false then M.one [id a] else M.one []) fun a hx => ?_).trans lcAll_if
          have hk := (he a hx).1
          have i1 := l_isi_int hk
          have i2 := l_isi_bool hk
          cases a <;> simp -implicitDefEqProofs [l_neSelf, l_eqSelf, key_int, key_str, keyD, defM, initM, tail_mapS, take_mapS, drop_mapS, sl0, slI, lcAll_map, lcAll_rng, forL_map, forL_rng, -List.map_take, -List.map_drop, -List.map_tail, -List.map_reverse, i1, i2, D.isI, D.isBl]
        have hfe : EqOk 60 (.lst (ds.filter fun a => !a.isI)) := by
          rw [eqOk_lst (n := 59)]
          intro x hx
          have := (he x (List.mem_filter.mp hx).1).2
          exact ⟨this.1, this.2.1, Nat.le_trans this.2.2 (by decide)⟩
        have hfn : ¬ (ds.filter fun a => !a.isI) = [] := by
          intro z
          have z := List.filter_eq_nil_iff.mp z
          have : ds.all D.isI = true := List.all_eq_true.mpr fun x hx => by
            have := z x hx
            simpa using this
          rw [this] at ha; cases ha
        have hne := l_neL0E hfe
        rw [decide_eq_false hfn] at hne
        rw [hstep]
        (conv => { lhs; simp -implicitDefEqProofs [l_neSelf, l_eqSelf, key_int, key_str, keyD, defM, initM, tail_mapS, take_mapS, drop_mapS, sl0, slI, lcAll_map, lcAll_rng, forL_map, forL_rng, -List.map_take, -List.map_drop, -List.map_tail, -List.map_reverse, hne] })

/-- law_lot_slip(law_value); slots: 0 law_value, 1 law_k -/
def b_law_lot_slip : SM := (mSeq (mIf (mOr (mNot (mB (mCallB fIsi (mCons (mVar 0) (mCons (mC (.v (.ty "tuple"))) mNil))))) (mB (mBin fEq (mVar 0) (mTup mNil)))) (mRet (mLst (mCons (mC (.str (Str.ofString "lists"))) (mCons (mC (.str (Str.ofString "None"))) mNil)))) mNext)
  (mSeq (mFor (mRng rg1 (mCons (mCallB fLen (mCons (mVar 0) mNil)) mNil)) (fName 1) (mIf (mOr (mB (mBin fEq (mVar 1) (mC (.int 6)))) (mNot (mB (mCall 1 f_law_is_list (mCons (mIxV 0 (mVar 1)) mNil))))) (mRet (mLst (mCons (mC (.str (Str.ofString "lists"))) (mCons (mCallB fReprX (mCons (mVar 1) mNil)) mNil)))) mNext) [1])
  (mRet (mLst mNil))))
def f_law_lot_slip : FM := defM b_law_lot_slip [(Str.ofString "_law_value"), (Str.ofString "_law_k")]
--@use vald
/-- what is told of a slip -/
def slipL : Option D → List D
  | none => []
  | some i => [.str "lists", .str i.py.shown]
theorem law_lot_slip_gen {d : D} (h : ValD d) : f_law_lot_slip [d] = val (.own (slipL (slipI d))) := by
  have hk := h.kn
  cases ht : d.isT with
  | false =>
    rw [slipI_no ht]
    (conv => { lhs; simp -implicitDefEqProofs [l_neSelf, l_eqSelf, key_int, key_str, keyD, defM, initM, tail_mapS, take_mapS, drop_mapS, sl0, slI, lcAll_map, lcAll_rng, forL_map, forL_rng, -List.map_take, -List.map_drop, -List.map_tail, -List.map_reverse, f_law_lot_slip, b_law_lot_slip, l_isi_tup hk, ht] })
    rfl
  | true =>
    obtain ⟨ds, rfl⟩ := isT_tupE ht
    obtain ⟨hl, he⟩ := h.el ds rfl
    have heq : EqOk 60 (.tup ds) := by rw [eqOk_tup (n := 59)]; exact fun e q => (he e q).eq
    have hq := l_eqT0E heq
    by_cases hne : ds = []
    · subst hne
      (conv => { lhs; simp -implicitDefEqProofs [l_neSelf, l_eqSelf, key_int, key_str, keyD, defM, initM, tail_mapS, take_mapS, drop_mapS, sl0, slI, lcAll_map, lcAll_rng, forL_map, forL_rng, -List.map_take, -List.map_drop, -List.map_tail, -List.map_reverse, f_law_lot_slip, b_law_lot_slip, hq] })
      rfl
    · rw [slipI_tup hne]
      (conv => { lhs; simp -implicitDefEqProofs [l_neSelf, l_eqSelf, key_int, key_str, keyD, defM, initM, tail_mapS, take_mapS, drop_mapS, sl0, slI, lcAll_map, lcAll_rng, forL_map, forL_rng, -List.map_take, -List.map_drop, -List.map_tail, -List.map_reverse, f_law_lot_slip, b_law_lot_slip, hq, hne] })
      rw [req_of (by omega)]
      rw [forL_findE (ρ := [some (.d (.tup ds)), none]) (fun pre : List Nat => [some (.d (.tup ds)), none]) (fun k => decide (k = 6) || !listD (nth ds k)) (fun k => rt (.own [.str "lists", .str (D.int k).py.shown])) rfl (fun _ _ => rfl) fun pre k post e hp => ?_]
      · cases (List.range ds.length).find? fun k => decide (k = 6) || !listD (nth ds k) with
        | none => simp -implicitDefEqProofs [l_neSelf, l_eqSelf, key_int, key_str, keyD, defM, initM, tail_mapS, take_mapS, drop_mapS, sl0, slI, lcAll_map, lcAll_rng, forL_map, forL_rng, -List.map_take, -List.map_drop, -List.map_tail, -List.map_reverse, slipL, slipF]
        | some k => simp -implicitDefEqProofs [l_neSelf, l_eqSelf, key_int, key_str, keyD, defM, initM, tail_mapS, take_mapS, drop_mapS, sl0, slI, lcAll_map, lcAll_rng, forL_map, forL_rng, -List.map_take, -List.map_drop, -List.map_tail, -List.map_reverse, slipL, slipF]
      · have hk : k < ds.length := by
          have := List.mem_range.mp (show k ∈ List.range ds.length by rw [e]; simp)
          exact this
        have hx := he _ (nth_mem hk)
        have hix : ixM ds (k : Int) = M.one (.d (nth ds k)) := ixM_some (L2.atI_nat (nth_some hk))
        have hbx := law_is_list_gen hx.ls
        have hrp : (D.int (k : Int)).okRepr := (rp_int (n := 0) (by omega)).ok (by decide) (by decide)
        have hr6 : (D.int 6).okRepr := (rp_int (n := 0) (by omega)).ok (by decide) (by decide)
        have x6 := l_reprX hr6
        have xk := l_reprX hrp
        generalize nth ds k = x at *
        by_cases c : k = 6
        · subst c
          simp -implicitDefEqProofs [l_neSelf, l_eqSelf, key_int, key_str, keyD, defM, initM, tail_mapS, take_mapS, drop_mapS, sl0, slI, lcAll_map, lcAll_rng, forL_map, forL_rng, -List.map_take, -List.map_drop, -List.map_tail, -List.map_reverse, hix, l_repr, hr6, x6]
        · have c' : ¬ (k : Int) = 6 := by omega
          simp -implicitDefEqProofs [l_neSelf, l_eqSelf, key_int, key_str, keyD, defM, initM, tail_mapS, take_mapS, drop_mapS, sl0, slI, lcAll_map, lcAll_rng, forL_map, forL_rng, -List.map_take, -List.map_drop, -List.map_tail, -List.map_reverse, hix, c, c', hbx, l_repr, hrp, xk]

/-- law_page(law_lists_here); slots: 0 law_lists_here, 1 law_numbers_here, 2 law_number -/
def b_law_page : SM := (mRet (mM1 fJoin (mC (.str (Str.ofString "\n"))) (mLc (mItems (mVar 0)) (fName 1) mYes (mM1 fJoin (mC (.str (Str.ofString " "))) (mLc (mItems (mVar 1)) (fName 2) mYes (mCallB fStrI (mCons (mVar 2) mNil)) [2])) [1])))
def f_law_page : FM := defM b_law_page [(Str.ofString "_law_lists_here"), (Str.ofString "_law_numbers_here"), (Str.ofString "_law_number")]
--@use text lotd
theorem law_page_eq {ls : List (List Int)} (h : LotOk ls) (hb : Bits4 ls) : f_law_page [tL ls] = val (.d (.str (pageS ls))) := by
  have h6 := h.1
  have s1 := page_sum hb fun l hl => (h.2 l hl).2.1
  (conv => { lhs; simp -implicitDefEqProofs [l_neSelf, l_eqSelf, key_int, key_str, keyD, defM, initM, tail_mapS, take_mapS, drop_mapS, sl0, slI, lcAll_map, lcAll_rng, forL_map, forL_rng, -List.map_take, -List.map_drop, -List.map_tail, -List.map_reverse, f_law_page, b_law_page] })
  rw [List.map_map] at s1
  have s1 : (List.map ((fun x => x.length) ∘ fun x => Txt.join (Str.ofString " ") (List.map (fun x => Str.ofString (Int.repr x)) x)) ls).sum ≤ ls.length * 5000 := s1
  have s2 : ∀ l ∈ ls, (List.map ((fun x => x.length) ∘ fun x => Str.ofString (Int.repr x)) l).sum + l.length * (Str.ofString " ").length ≤ 16777216 := fun l hl => by
    have a := line_sum (hb l hl)
    have b := (h.2 l hl).2.1
    rw [List.map_map] at a
    have a : (List.map ((fun x => x.length) ∘ fun x => Str.ofString (Int.repr x)) l).sum ≤ l.length * 124 := a
    rw [sp_len]; omega
  refine (req_of ⟨by omega, fun l hl => ⟨by have := (h.2 l hl).2.1; omega, fun x hx => log_lt (hb l hl x hx) (by decide), s2 l hl⟩, by rw [nl_len]; omega⟩).trans ?_
  rfl

/-- law_number_in(law_word); slots: 0 law_word, 1 law_digits, 2 law_glyph -/
def b_law_number_in : SM := (mSeq (mSet 1 (mIfE (mB (mBin fEq (mSl (mVar 0) mNoP (mPart (mC (.int 1)))) (mC (.str (Str.ofString "-"))))) (mSl (mVar 0) (mPart (mC (.int 1))) mNoP) (mVar 0)))
  (mSeq (mIf (mOr (mB (mBin fEq (mVar 1) (mC (.str (Str.ofString ""))))) (mB (mBin fNe (mLc (mChars (mVar 1)) (fName 2) (mNot (mB (mChain fLeS fLeS (mC (.str (Str.ofString "0"))) (mVar 2) (mC (.str (Str.ofString "9")))))) (mVar 2) [2]) (mLst mNil)))) (mRet (mC .non)) mNext)
  (mRet (mIfE (mB (mBin fEq (mCallB fStrI (mCons (mCallB fIntS (mCons (mVar 0) mNil)) mNil)) (mVar 0))) (mCallB fIntS (mCons (mVar 0) mNil)) (mC .non)))))
def f_law_number_in : FM := defM b_law_number_in [(Str.ofString "_law_word"), (Str.ofString "_law_digits"), (Str.ofString "_law_glyph")]
--@use num2 vald
theorem glyph_dg {c : Nat} : (!decide ((⟨#[c]⟩ : Str).cps.toList < (Str.ofString "0").cps.toList) && !decide ((Str.ofString "9").cps.toList < (⟨#[c]⟩ : Str).cps.toList)) = isDg c := by
  have e0 : (Str.ofString "0").cps.toList = [48] := by decide +kernel
  have e9 : (Str.ofString "9").cps.toList = [57] := by decide +kernel
  have l1 : ([c] < [48]) ↔ c < 48 := by simp [List.cons_lt_cons_iff]
  have l2 : ([57] < [c]) ↔ 57 < c := by simp [List.cons_lt_cons_iff]
  rw [e0, e9]
  show (!decide ([c] < [48]) && !decide ([57] < [c])) = _
  unfold isDg
  by_cases h1 : c < 48 <;> by_cases h2 : 57 < c <;> simp [l1, l2, h1, h2] <;> omega
theorem digits_lt : ∀ (l : List Nat) (a : Nat), (∀ c ∈ l, isDg c = true) → l.foldl (fun acc c => acc * 10 + (c - 48)) a < (a + 1) * 10 ^ l.length
  | [], a, _ => by simp
  | c :: l, a, h => by
    have hc : 48 ≤ c ∧ c ≤ 57 := of_decide_eq_true (h c (List.mem_cons_self ..))
    have ih := digits_lt l (a * 10 + (c - 48)) fun x hx => h x (List.mem_cons_of_mem _ hx)
    rw [List.foldl_cons, List.length_cons, Nat.pow_succ]
    refine Nat.lt_of_lt_of_le ih ?_
    rw [Nat.mul_comm (10 ^ l.length) 10, ← Nat.mul_assoc]
    exact Nat.mul_le_mul_right _ (by omega)
theorem val_log {w : Str} (h0 : digW w ≠ []) (h : (digW w).all isDg = true) (hl : (digW w).length ≤ 500) : (valW w).natAbs.log2 < 1920 := by
  have h1 := digits_lt (digW w) 0 (List.all_eq_true.mp h)
  have h2 : (10 : Nat) ^ (digW w).length ≤ 10 ^ 500 := Nat.pow_le_pow_right (by decide) hl
  have e : (valW w).natAbs = NumText.digitsVal (digW w) := by
    unfold valW
    split <;> simp
  rw [e]
  have h3 : NumText.digitsVal (digW w) < 10 ^ 500 := by
    have : NumText.digitsVal (digW w) = (digW w).foldl (fun acc c => acc * 10 + (c - 48)) 0 := rfl
    omega
  by_cases z : NumText.digitsVal (digW w) = 0
  · rw [z]; decide
  · exact (Nat.log2_lt z).mpr (Nat.lt_of_lt_of_le h3 (by decide +kernel))
theorem law_number_in_eq {w : Str} (hw : PyData.strOk w = true) (hl : w.length ≤ 500) : f_law_number_in [.str w] = val (.d (oI (numW w))) := by
  have o1 := ok_hi (i := 1) (by decide) hw
  have o2 := ok_lo (i := 1) (by decide) hw
  have q1 := eqS o1 (strOk_of "-")
  have hs : sizeLine = 16777216 := rfl
  have e1 : (cutS w none (some 1) = Str.ofString "-") = ((TL.tl w).take 1 = [45]) := propext (by rw [tl_eq, tl_hi (by decide)]; rfl)
  have main : ∀ d : Str, TL.tl d = digW w → PyData.strOk d = true → d.length ≤ 500 →
      (out (bindN (mSeq (mIf (mOr (mB (mBin fEq (mVar 1) (mC (.str (Str.ofString ""))))) (mB (mBin fNe (mLc (mChars (mVar 1)) (fName 2) (mNot (mB (mChain fLeS fLeS (mC (.str (Str.ofString "0"))) (mVar 2) (mC (.str (Str.ofString "9")))))) (mVar 2) [2]) (mLst mNil)))) (mRet (mC .non)) mNext)
  (mRet (mIfE (mB (mBin fEq (mCallB fStrI (mCons (mCallB fIntS (mCons (mVar 0) mNil)) mNil)) (mVar 0))) (mCallB fIntS (mCons (mVar 0) mNil)) (mC .non))) [some (.d (.str w)), some (.d (.str d)), none]) nx)) = val (.d (oI (numW w))) := fun d hd ho hdl => by
    have hlen : (TL.tl d).length ≤ 500 := by rw [← TL.len_tl]; exact hdl
    have e0 : (d = Str.ofString "") = (digW w = []) := propext (by rw [tl_eq, hd]; rfl)
    by_cases c0 : digW w = []
    · have n0 : numW w = none := if_neg fun h => h.1 c0
      have c1 := e0.mpr c0
      rw [n0]
      (conv => { lhs; simp -implicitDefEqProofs [l_neSelf, l_eqSelf, key_int, key_str, keyD, defM, initM, tail_mapS, take_mapS, drop_mapS, sl0, slI, lcAll_map, lcAll_rng, forL_map, forL_rng, -List.map_take, -List.map_drop, -List.map_tail, -List.map_reverse, c1] })
      rfl
    · have c1 : ¬ d = Str.ofString "" := fun h => c0 (e0.mp h)
      have hch : charsD d = (digW w).map fun c => D.str ⟨#[c]⟩ := by rw [← hd]; rfl
      rw [hd] at hlen
      have hgd : ∀ a : Nat, (decide ([a] < (Str.ofString "0").cps.toList) || decide ((Str.ofString "9").cps.toList < [a])) = !isDg a := fun a => by
        have := glyph_dg (c := a)
        rw [← this, Bool.not_and, Bool.not_not, Bool.not_not]
      have hok : ∀ c ∈ digW w, c < 0x110000 := by rw [← hd]; exact ok_tl.mp ho
      have hq : EqOk 60 (.lst (((digW w).filter fun a => !isDg a).map fun c => D.str ⟨#[c]⟩)) := by
        rw [eqOk_lst (n := 59)]
        intro x hx
        obtain ⟨c, hc, rfl⟩ := List.mem_map.mp hx
        exact eqOk_str.mpr (ok_tl.mpr fun b hb => by
          have : b = c := by simpa [TL.tl] using hb
          rw [this]; exact hok c (List.mem_filter.mp hc).1)
      have hne := l_neL0E hq
      by_cases ca : (digW w).all isDg = true
      · have hf0 : (digW w).filter (fun a => !isDg a) = [] := List.filter_eq_nil_iff.mpr fun x hx => by
          rw [List.all_eq_true.mp ca x hx]; simp
        have hi := l_intS (intW c0 ca (by omega)) (by omega : w.length ≤ 640)
        have hst : (valW w).natAbs.log2 < 1920 := val_log c0 ca hlen
        have hsn : (Str.ofString (valW w).repr) = numS (valW w) := rfl
        have q2 := eqS (strOk_of (valW w).repr) hw
        by_cases cn : numS (valW w) = w
        · have n0 : numW w = some (valW w) := by rw [← cn, numW_num, cn]
          rw [n0]
          (conv => { lhs; simp -implicitDefEqProofs [l_neSelf, l_eqSelf, key_int, key_str, keyD, defM, initM, tail_mapS, take_mapS, drop_mapS, sl0, slI, lcAll_map, lcAll_rng, forL_map, forL_rng, -List.map_take, -List.map_drop, -List.map_tail, -List.map_reverse, c1, hch, hgd, hf0, hi, hst] })
          rw [req_of (by omega), if_pos (by rw [hsn]; exact cn)]
          rfl
        · have n0 : numW w = none := by
            cases e : numW w with
            | none => rfl
            | some n =>
              have := numW_back e
              have e2 : valW w = n := by rw [this]; exact (digW_num n).2
              exact absurd (by rw [e2, ← this]) cn
          rw [n0]
          (conv => { lhs; simp -implicitDefEqProofs [l_neSelf, l_eqSelf, key_int, key_str, keyD, defM, initM, tail_mapS, take_mapS, drop_mapS, sl0, slI, lcAll_map, lcAll_rng, forL_map, forL_rng, -List.map_take, -List.map_drop, -List.map_tail, -List.map_reverse, c1, hch, hgd, hf0, hi, hst] })
          rw [req_of (by omega), if_neg (by rw [hsn]; exact cn)]
          rfl
      · have n0 : numW w = none := if_neg fun h => ca h.2.1
        have hf0 : ¬ (digW w).filter (fun a => !isDg a) = [] := fun z => ca (List.all_eq_true.mpr fun x hx => by
          have := List.filter_eq_nil_iff.mp z x hx
          simpa using this)
        rw [n0]
        have hex : ∃ x, x ∈ digW w ∧ isDg x = false := by
          obtain ⟨x, hx⟩ := List.exists_mem_of_ne_nil _ hf0
          have := List.mem_filter.mp hx
          exact ⟨x, this.1, by simpa using this.2⟩
        (conv => { lhs; simp -implicitDefEqProofs [l_neSelf, l_eqSelf, key_int, key_str, keyD, defM, initM, tail_mapS, take_mapS, drop_mapS, sl0, slI, lcAll_map, lcAll_rng, forL_map, forL_rng, -List.map_take, -List.map_drop, -List.map_tail, -List.map_reverse, c1, hch, hgd, hne] })
        rw [req_of (by omega), if_pos hex]
        rfl
  by_cases c : (TL.tl w).take 1 = [45]
  · have m := main (cutS w (some 1) none) (by rw [tl_lo (by decide)]; exact (if_pos c).symm) o2 (Nat.le_trans (L2.cutS_length ..) hl)
    have z := e1.mpr c
    refine Eq.trans ?_ m
    simp -implicitDefEqProofs [l_neSelf, l_eqSelf, key_int, key_str, keyD, defM, initM, tail_mapS, take_mapS, drop_mapS, sl0, slI, lcAll_map, lcAll_rng, forL_map, forL_rng, -List.map_take, -List.map_drop, -List.map_tail, -List.map_reverse, f_law_number_in, b_law_number_in, z]
    exact req_of (by omega)
  · have m := main w (if_neg c).symm hw hl
    have z : ¬ cutS w none (some 1) = Str.ofString "-" := fun h => c (e1.mp h)
    refine Eq.trans ?_ m
    simp -implicitDefEqProofs [l_neSelf, l_eqSelf, key_int, key_str, keyD, defM, initM, tail_mapS, take_mapS, drop_mapS, sl0, slI, lcAll_map, lcAll_rng, forL_map, forL_rng, -List.map_take, -List.map_drop, -List.map_tail, -List.map_reverse, f_law_number_in, b_law_number_in, z]
    exact req_of (by omega)

--@use txt
/-! ### a text cut at a sign -/
def cutAt (s : Nat) : List Nat → List (List Nat)
  | [] => [[]]
  | x :: l => if x = s then [] :: cutAt s l else match cutAt s l with
    | [] => [[x]]
    | p :: r => (x :: p) :: r
theorem cutAt_ne {s : Nat} : ∀ {c : List Nat}, cutAt s c ≠ []
  | [] => by simp [cutAt]
  | x :: l => by
    unfold cutAt
    split
    · simp
    · split <;> simp
theorem cutAt_spec {s : Nat} : ∀ {c : List Nat}, TL.joinL [s] (cutAt s c) = c ∧ (∀ p ∈ cutAt s c, s ∉ p) ∧ (cutAt s c).length = c.count s + 1
  | [] => ⟨rfl, by simp [cutAt], rfl⟩
  | x :: l => by
    obtain ⟨h1, h2, h3⟩ := cutAt_spec (s := s) (c := l)
    have hne := cutAt_ne (s := s) (c := l)
    unfold cutAt
    by_cases e : x = s
    · rw [if_pos e]
      cases hc : cutAt s l with
      | nil => exact absurd hc hne
      | cons p r =>
        rw [hc] at h1 h2 h3
        refine ⟨?_, ?_, ?_⟩
        · show [] ++ ([s] ++ TL.joinL [s] (p :: r)) = x :: l
          rw [h1, e]; rfl
        · intro q hq
          rcases List.mem_cons.mp hq with rfl | hq
          · simp
          · exact h2 q hq
        · rw [List.length_cons, h3, e, List.count_cons_self]
    · rw [if_neg e]
      cases hc : cutAt s l with
      | nil => exact absurd hc hne
      | cons p r =>
        rw [hc] at h1 h2 h3
        refine ⟨?_, ?_, ?_⟩
        · cases r with
          | nil => show x :: p = x :: l; rw [show p = l from h1]
          | cons q r => show x :: (p ++ ([s] ++ TL.joinL [s] (q :: r))) = x :: l; rw [show p ++ ([s] ++ TL.joinL [s] (q :: r)) = l from h1]
        · intro q hq
          rcases List.mem_cons.mp hq with rfl | hq
          · exact fun z => (List.mem_cons.mp z).elim (fun y => e y.symm) (h2 p (List.mem_cons_self ..))
          · exact h2 q (List.mem_cons_of_mem _ hq)
        · rw [List.count_cons_of_ne e]
          simpa using h3
theorem join_infix {S : List Nat} : ∀ {ps : List (List Nat)} {p : List Nat}, p ∈ ps → p <:+: TL.joinL S ps
  | [q], p, h => by rw [List.mem_singleton.mp h]; exact List.infix_refl _
  | q :: r :: t, p, h => by
    show p <:+: q ++ (S ++ TL.joinL S (r :: t))
    rcases List.mem_cons.mp h with rfl | h
    · exact (List.prefix_append ..).isInfix
    · exact (join_infix h).trans ((List.suffix_append ..).isInfix.trans (List.suffix_append ..).isInfix)
theorem cut_infix {s : Nat} {c p : List Nat} (h : p ∈ cutAt s c) : p <:+: c := by
  have := join_infix (S := [s]) h
  rwa [cutAt_spec.1] at this
/-- a text split at a sign -/
theorem split_cut {x y : Str} {s : Nat} (ey : TL.tl y = [s]) (hk : y.cps.all (· < 256) = true) : (Txt.split x y).map TL.tl = cutAt s (TL.tl x) := by
  rw [TL.split_spl x y (by rw [ey]; simp) (TL.kind_ok hk), ey]
  obtain ⟨h1, h2, _⟩ := cutAt_spec (s := s) (c := TL.tl x)
  have := TL.spl_join (s := s) (S := []) (cutAt_ne (s := s) (c := TL.tl x)) h2
  rwa [h1] at this
theorem tl_n : TL.tl (Str.ofString "\n") = [10] := by decide +kernel
theorem tl_s : TL.tl (Str.ofString " ") = [32] := by decide +kernel
theorem kd_n : (Str.ofString "\n").cps.all (· < 256) = true := by decide +kernel
theorem kd_s : (Str.ofString " ").cps.all (· < 256) = true := by decide +kernel
/-- no part without blank and line feed is longer -/
def RunB (B : Nat) (c : List Nat) : Prop := ∀ w, w <:+: c → 10 ∉ w → 32 ∉ w → w.length ≤ B
theorem txt_of {s : Str} (h0 : PyData.strOk s = true) (h1 : s.length ≤ 100000) (h2 : (TL.tl s).count 10 ≤ 390) (h3 : (TL.tl s).count 32 ≤ 390) (h4 : RunB 100 (TL.tl s)) : TxtOk s := by
  have e := split_cut (x := s) tl_n kd_n
  have len : ∀ {x y : Str} {d : Nat}, (Txt.split x y).map TL.tl = cutAt d (TL.tl x) → (Txt.split x y).length = (TL.tl x).count d + 1 := fun {x y d} q => by
    have := congrArg List.length q
    rw [List.length_map] at this
    rw [this, cutAt_spec.2.2]
  refine ⟨h0, h1, by rw [len e]; omega, fun l hl => ?_⟩
  have ml : TL.tl l ∈ cutAt 10 (TL.tl s) := by rw [← e]; exact List.mem_map.mpr ⟨l, hl, rfl⟩
  have il := cut_infix ml
  have nl := cutAt_spec.2.1 _ ml
  have e2 := split_cut (x := l) tl_s kd_s
  refine ⟨?_, ?_, fun w hw => ?_⟩
  · have := il.length_le
    rw [TL.len_tl] at h1 ⊢
    omega
  · have := il.sublist.count_le 32
    rw [len e2]; omega
  · have mw : TL.tl w ∈ cutAt 32 (TL.tl l) := by rw [← e2]; exact List.mem_map.mpr ⟨w, hw, rfl⟩
    have iw := (cut_infix mw).trans il
    refine ⟨ok_tl.mpr fun c hc => ok_tl.mp h0 c (iw.subset hc), ?_⟩
    rw [TL.len_tl]
    exact h4 _ iw (fun z => nl ((cut_infix mw).subset z)) (cutAt_spec.2.1 _ mw)
theorem pre_app : ∀ {u v w : List Nat}, w <+: u ++ v → w <+: u ∨ ∃ b, w = u ++ b ∧ b <+: v
  | [], v, w, h => .inr ⟨w, rfl, h⟩
  | x :: u, v, [], _ => .inl (List.nil_prefix)
  | x :: u, v, y :: w, h => by
    rw [List.cons_append, List.cons_prefix_cons] at h
    rcases pre_app h.2 with q | ⟨b, rfl, q⟩
    · exact .inl (List.cons_prefix_cons.mpr ⟨h.1, q⟩)
    · exact .inr ⟨b, by rw [h.1]; rfl, q⟩
theorem inf_app : ∀ {u v w : List Nat}, w <:+: u ++ v → w <:+: u ∨ w <:+: v ∨ ∃ a b, w = a ++ b ∧ a <:+ u ∧ b <+: v
  | [], v, w, h => .inr (.inl h)
  | x :: u, v, w, h => by
    rw [List.cons_append, List.infix_cons_iff] at h
    rcases h with h | h
    · rcases pre_app (u := x :: u) h with q | ⟨b, rfl, q⟩
      · exact .inl q.isInfix
      · exact .inr (.inr ⟨x :: u, b, rfl, List.suffix_refl _, q⟩)
    · rcases inf_app h with q | q | ⟨a, b, e, q1, q2⟩
      · exact .inl (List.infix_cons_iff.mpr (.inr q))
      · exact .inr (.inl q)
      · exact .inr (.inr ⟨a, b, e, q1.trans (List.suffix_cons ..), q2⟩)
theorem RunB.app {A B : Nat} {u v : List Nat} (h : RunB A u) (h' : RunB B v) : RunB (A + B) (u ++ v) := fun w hw n1 n2 => by
  rcases inf_app hw with q | q | ⟨a, b, rfl, q1, q2⟩
  · have := h w q n1 n2; omega
  · have := h' w q n1 n2; omega
  · have := h a q1.isInfix (fun z => n1 (List.mem_append_left _ z)) fun z => n2 (List.mem_append_left _ z)
    have := h' b q2.isInfix (fun z => n1 (List.mem_append_right _ z)) fun z => n2 (List.mem_append_right _ z)
    rw [List.length_append]; omega
theorem RunB.inf {B : Nat} {u v : List Nat} (h : RunB B v) (q : u <:+: v) : RunB B u := fun w hw => h w (hw.trans q)
theorem RunB.sep {B s : Nat} (hs : s = 10 ∨ s = 32) : ∀ {ps : List (List Nat)}, (∀ p ∈ ps, RunB B p) → RunB B (TL.joinL [s] ps)
  | [], _ => fun w hw _ _ => by rw [List.infix_nil.mp hw]; exact Nat.zero_le _
  | [p], h => h p (List.mem_singleton.mpr rfl)
  | p :: q :: r, h => fun w hw n1 n2 => by
    have ih := RunB.sep hs (ps := q :: r) fun x hx => h x (List.mem_cons_of_mem _ hx)
    have hw : w <:+: p ++ (s :: TL.joinL [s] (q :: r)) := hw
    have ns : s ∉ w := by rcases hs with rfl | rfl <;> assumption
    rcases inf_app hw with z | z | ⟨a, b, rfl, q1, q2⟩
    · exact h p (List.mem_cons_self ..) w z n1 n2
    · rcases List.infix_cons_iff.mp z with z | z
      · cases w with
        | nil => exact Nat.zero_le _
        | cons y w => exact absurd (by rw [(List.cons_prefix_cons.mp z).1]; exact List.mem_cons_self ..) ns
      · exact ih w z n1 n2
    · cases b with
      | nil => rw [List.append_nil] at n1 n2 ⊢; exact h p (List.mem_cons_self ..) a q1.isInfix n1 n2
      | cons y b => exact absurd (List.mem_append_right _ (by rw [(List.cons_prefix_cons.mp q2).1]; exact List.mem_cons_self ..)) ns
theorem RunB.short {B : Nat} {p : List Nat} (h : p.length ≤ B) : RunB B p := fun w hw _ _ => Nat.le_trans hw.length_le h
/-- small numbers -/
def Bits3 (ls : List (List Int)) : Prop := ∀ l ∈ ls, ∀ x ∈ l, x.natAbs < 10 ^ 30
theorem Bits3.four {ls : List (List Int)} (h : Bits3 ls) : Bits4 ls := fun l hl x hx => Nat.lt_of_lt_of_le (h l hl x hx) (by decide)
theorem numS_len3 {n : Int} (h : n.natAbs < 10 ^ 30) : (numS n).length ≤ 32 := by
  have := TL.numL_len (k := 30) (by decide) h
  rw [TL.len_tl, tl_numS]
  split
  · rw [List.length_cons]; omega
  · omega
theorem page_run {ls : List (List Int)} (hb : Bits3 ls) : RunB 32 (TL.tl (pageS ls)) := by
  unfold pageS
  rw [TL.join_eq, TL.tl_join, tl_n]
  refine RunB.sep (.inl rfl) fun p hp => ?_
  obtain ⟨q, hq, rfl⟩ := List.mem_map.mp hp
  obtain ⟨l, hl, rfl⟩ := List.mem_map.mp hq
  unfold lineS
  rw [TL.join_eq, TL.tl_join, tl_s]
  refine RunB.sep (.inr rfl) fun p hp => ?_
  obtain ⟨q, hq, rfl⟩ := List.mem_map.mp hp
  obtain ⟨x, hx, rfl⟩ := List.mem_map.mp hq
  refine RunB.short ?_
  rw [← TL.len_tl]
  exact Nat.le_trans (numS_len3 (hb l hl x hx)) (by decide)
theorem join_count {s d : Nat} : ∀ {ps : List (List Nat)} {B : Nat}, (∀ p ∈ ps, p.count d ≤ B) → (TL.joinL [s] ps).count d ≤ ps.length * (B + 1)
  | [], _, _ => by simp [TL.joinL]
  | [p], B, h => by
    have := h p (List.mem_singleton.mpr rfl)
    show p.count d ≤ 1 * (B + 1)
    omega
  | p :: q :: r, B, h => by
    have ih := join_count (s := s) (ps := q :: r) fun x hx => h x (List.mem_cons_of_mem _ hx)
    have := h p (List.mem_cons_self ..)
    show (p ++ ([s] ++ TL.joinL [s] (q :: r))).count d ≤ _
    rw [List.count_append, List.count_append, List.length_cons, Nat.add_mul]
    have : [s].count d ≤ 1 := List.count_le_length
    omega
theorem page_cnt {ls : List (List Int)} (hl : ∀ l ∈ ls, l.length ≤ 40) : (TL.tl (pageS ls)).count 10 ≤ ls.length ∧ (TL.tl (pageS ls)).count 32 ≤ ls.length * 41 := by
  have hw : ∀ (l : List Int) (d : Nat), d = 10 ∨ d = 32 → ∀ p ∈ (l.map numS).map TL.tl, p.count d ≤ 0 := fun l d hd p hp => by
    obtain ⟨q, hq, rfl⟩ := List.mem_map.mp hp
    obtain ⟨x, hx, rfl⟩ := List.mem_map.mp hq
    have := nums_free x
    rcases hd with rfl | rfl
    · rw [List.count_eq_zero.mpr this.2]; exact Nat.le_refl _
    · rw [List.count_eq_zero.mpr this.1]; exact Nat.le_refl _
  constructor
  · unfold pageS
    rw [TL.join_eq, TL.tl_join, tl_n]
    refine Nat.le_trans (join_count (B := 0) fun p hp => ?_) (by rw [List.length_map, List.length_map]; omega)
    obtain ⟨q, hq, rfl⟩ := List.mem_map.mp hp
    obtain ⟨l, _, rfl⟩ := List.mem_map.mp hq
    rw [List.count_eq_zero.mpr (line_free l)]; exact Nat.le_refl _
  · unfold pageS
    rw [TL.join_eq, TL.tl_join, tl_n]
    refine Nat.le_trans (join_count (B := 40) fun p hp => ?_) (by rw [List.length_map, List.length_map]; omega)
    obtain ⟨q, hq, rfl⟩ := List.mem_map.mp hp
    obtain ⟨l, h, rfl⟩ := List.mem_map.mp hq
    unfold lineS
    rw [TL.join_eq, TL.tl_join, tl_s]
    have := join_count (s := 32) (B := 0) (hw l 32 (.inr rfl))
    rw [List.length_map, List.length_map] at this
    have := hl l h
    omega
/-- pages are texts that can be told -/
theorem page_txt {ls : List (List Int)} (hb : Bits3 ls) (h0 : ls ≠ []) (h12 : ls.length ≤ 12) (hl : ∀ l ∈ ls, l ≠ [] ∧ l.length ≤ 40) : TxtOk (pageS ls) := by
  have e := split_page h0
  have hlen := pageS_len hb.four fun l h => (hl l h).2
  refine ⟨page_ok ls, by omega, by rw [e, List.length_map]; omega, fun z hz => ?_⟩
  rw [e] at hz
  obtain ⟨l, h, rfl⟩ := List.mem_map.mp hz
  have e2 := split_line (hl l h).1
  have hll := lineS_len (hb.four l h)
  have h40 := (hl l h).2
  refine ⟨by omega, by rw [e2, List.length_map]; omega, fun w hw => ?_⟩
  rw [e2] at hw
  obtain ⟨x, hx, rfl⟩ := List.mem_map.mp hw
  exact ⟨strOk_of _, by have := numS_len3 (hb l h x hx); omega⟩
/-- what stands of a page about a sign that is put in or left out -/
theorem bent_txt {ls : List (List Int)} {s : Str} {u g v : List Nat} (hb : Bits3 ls) (h4 : ls.length ≤ 4) (hl : ∀ l ∈ ls, l.length ≤ 40) (e : TL.tl s = u ++ (g ++ v)) (hu : u <:+: TL.tl (pageS ls)) (hv : v <:+: TL.tl (pageS ls)) (hg : g.length ≤ 1) (hgo : ∀ c ∈ g, c < 0x110000) : TxtOk s := by
  have hr := page_run hb
  obtain ⟨c1, c2⟩ := page_cnt hl
  have hlen := pageS_len hb.four hl
  rw [TL.len_tl] at hlen
  have hok : ∀ c ∈ TL.tl (pageS ls), c < 0x110000 := ok_tl.mp (page_ok ls)
  have u1 := hu.length_le
  have v1 := hv.length_le
  have cnt : ∀ d, (TL.tl s).count d ≤ 2 * (TL.tl (pageS ls)).count d + 1 := fun d => by
    have a := hu.sublist.count_le d
    have b := hv.sublist.count_le d
    have c : g.count d ≤ g.length := List.count_le_length
    rw [e, List.count_append, List.count_append]
    omega
  refine txt_of (ok_tl.mpr fun c hc => ?_) ?_ (by have := cnt 10; omega) (by have := cnt 32; omega) ?_
  · rw [e] at hc
    rcases List.mem_append.mp hc with q | q
    · exact hok c (hu.subset q)
    · rcases List.mem_append.mp q with q | q
      · exact hgo c q
      · exact hok c (hv.subset q)
  · rw [TL.len_tl, e, List.length_append, List.length_append]; omega
  · rw [e]
    have := (hr.inf hu).app ((RunB.short hg).app (hr.inf hv))
    exact fun w hw n1 n2 => Nat.le_trans (this w hw n1 n2) (by decide)


/-- law_bent(law_jar_here, law_page_here); slots: 0 law_jar_here, 1 law_page_here, 2 law_way, 3 law_at, 4 law_glyph, 5 law_parts_here, 6 law_menu -/
def b_law_bent : SM := (mSeq (mPar3 2 3 4 (mCall 2 p_law_dip (mCons (mVar 0) (mCons (mC (.int 8)) mNil))) (mCall 2 p_law_dip (mCons (mVar 0) (mCons (mBin fAdd (mCallB fLen (mCons (mVar 1) mNil)) (mC (.int 1))) mNil))) (mCall 2 p_law_pick (mCons (mVar 0) (mCons (mC (.str (Str.ofString " \n0-+19_"))) mNil))))
  (mSeq (mSet 5 (mM1 fSplit (mVar 1) (mC (.str (Str.ofString "\n")))))
  (mSeq (mSet 6 (mLst (mCons (mBin fAdd (mBin fAdd (mSl (mVar 1) mNoP (mPart (mVar 3))) (mVar 4)) (mSl (mVar 1) (mPart (mVar 3)) mNoP)) (mCons (mBin fAdd (mSl (mVar 1) mNoP (mPart (mVar 3))) (mSl (mVar 1) (mPart (mBin fAdd (mVar 3) (mC (.int 1)))) mNoP)) (mCons (mBin fAdd (mBin fAdd (mSl (mVar 1) mNoP (mPart (mVar 3))) (mVar 4)) (mSl (mVar 1) (mPart (mBin fAdd (mVar 3) (mC (.int 1)))) mNoP)) mNil)))))
  (mSeq (mSet 6 (mBin fAdd (mVar 6) (mLst (mCons (mVar 1) (mCons (mBin fAdd (mVar 1) (mC (.str (Str.ofString "\n")))) mNil)))))
  (mRet (mBin fIx (mBin fAdd (mVar 6) (mLst (mCons (mM1 fJoin (mC (.str (Str.ofString "\n"))) (mUn fRev (mVar 5))) (mCons (mM1 fJoin (mC (.str (Str.ofString "\n"))) (mBin fMul (mVar 5) (mC (.int 3)))) (mCons (mC (.str (Str.ofString "-0"))) mNil))))) (mVar 2)))))))
def f_law_bent : FM := defM b_law_bent [(Str.ofString "_law_jar_here"), (Str.ofString "_law_page_here"), (Str.ofString "_law_way"), (Str.ofString "_law_at"), (Str.ofString "_law_glyph"), (Str.ofString "_law_parts_here"), (Str.ofString "_law_menu")]
--@use cut lot2
def p_law_bent : FM := spec (fun s : Str => [.jar, .str s]) (fun s => ∃ ls, LotSm ls ∧ s = pageS ls) (fun _ s => TxtOk s) fun s => .d (.str s)
@[simp] theorem law_bent_eq {ls : List (List Int)} (h : LotSm ls) : p_law_bent [.jar, .str (pageS ls)] = (M.any TxtOk).bind fun s => val (.d (.str s)) := (spec_eq (fun a b e => by
  injection e with _ e
  injection e with e
  injection e) (pageS ls)).trans (req_of ⟨ls, h, rfl⟩)
theorem o_law_bent : ∀ ds : List D, ds.length = 2 → (f_law_bent ds).le (p_law_bent ds) := by
  refine fun ds _ => spec_le (fun s h => ?_) ds
  obtain ⟨ls, h, rfl⟩ := h
  obtain ⟨hlo, _, h4, hbd⟩ := h
  have hb3 : Bits3 ls := fun l hl x hx => by have := hbd l hl x hx; omega
  have hb : Bits4 ls := hb3.four
  have hne : ls ≠ [] := fun z => by have := hlo.1.1; rw [z] at this; simp at this
  have hl40 : ∀ l ∈ ls, l.length ≤ 40 := fun l hl => (hlo.2 l hl).2.1
  have hlen := pageS_len hb hl40
  have hn : (Str.ofString "\n").length = 1 := nl_len
  have hg8 : (Str.ofString " \n0-+19_").length = 8 := by decide +kernel
  have esp := split_page hne
  have hcl : ∀ lo hi, (cutS (pageS ls) lo hi).length ≤ (pageS ls).length := fun lo hi => L2.cutS_length ..
  have hj : ∀ ms : List (List Int), Bits4 ms → (∀ l ∈ ms, l.length ≤ 40) → ms.length ≤ 12 → M.lift (fJoin (.str (Str.ofString "\n")) (.lst (ms.map (D.str ∘ lineS)))) = M.one (.d (.str (pageS ms))) := fun ms h1 h2 h3 => by
    have e := l_joinM (s := Str.ofString "\n") (h := lineS) (l := ms)
    have p := page_sum h1 h2
    rw [req_of (by rw [hn]; omega)] at e
    exact e
  have h3 : ∀ l ∈ ls ++ (ls ++ ls), l ∈ ls := fun l hl => by
    rcases List.mem_append.mp hl with q | q
    · exact q
    · rcases List.mem_append.mp q with q | q <;> exact q
  have j1 : M.lift (fJoin (.str (Str.ofString "\n")) (.lst (ls.map (D.str ∘ lineS)).reverse)) = M.one (.d (.str (pageS ls.reverse))) := by
    rw [← List.map_reverse]
    exact hj _ (fun l hl => hb l (List.mem_reverse.mp hl)) (fun l hl => hl40 l (List.mem_reverse.mp hl)) (by rw [List.length_reverse]; omega)
  have j2 : M.lift (fJoin (.str (Str.ofString "\n")) (.lst (ls.map (D.str ∘ lineS) ++ (ls.map (D.str ∘ lineS) ++ ls.map (D.str ∘ lineS))))) = M.one (.d (.str (pageS (ls ++ (ls ++ ls))))) := by
    rw [← List.map_append, ← List.map_append]
    exact hj _ (fun l hl => hb l (h3 l hl)) (fun l hl => hl40 l (h3 l hl)) (by rw [List.length_append, List.length_append]; omega)
  simp -implicitDefEqProofs [l_neSelf, l_eqSelf, key_int, key_str, keyD, defM, initM, tail_mapS, take_mapS, drop_mapS, sl0, slI, lcAll_map, lcAll_rng, forL_map, forL_rng, -List.map_take, -List.map_drop, -List.map_tail, -List.map_reverse, f_law_bent, b_law_bent, hn, hg8, esp, j1, j2]
  intro a a0 a1
  refine ⟨⟨by omega, by omega⟩, fun b b0 b1 => fun g hg => ?_⟩
  have lapp : ∀ x y : Str, (x ++ y).length = x.length + y.length := fun x y => by rw [TL.len_tl, TL.tl_append, List.length_append, ← TL.len_tl, ← TL.len_tl]
  have lg : (⟨#[g]⟩ : Str).length = 1 := rfl
  have k1 := hcl none (some b)
  have k2 := hcl (some b) none
  have k3 := hcl (some (b + 1)) none
  have hgo : g < 0x110000 := ok_tl.mp (strOk_of " \n0-+19_") g (Array.mem_toList_iff.mpr hg)
  have lpg : (cutS (pageS ls) none (some b) ++ (⟨#[g]⟩ : Str)).length = (cutS (pageS ls) none (some b)).length + 1 := by rw [lapp, lg]
  refine ⟨by rw [lpg, lg]; omega, ?_⟩
  have u0 : TL.tl (cutS (pageS ls) none (some b)) <:+: TL.tl (pageS ls) := by rw [tl_hi b0]; exact (List.take_prefix ..).isInfix
  have v0 : TL.tl (cutS (pageS ls) (some b) none) <:+: TL.tl (pageS ls) := by rw [tl_lo b0]; exact (List.drop_suffix ..).isInfix
  have v1 : TL.tl (cutS (pageS ls) (some (b + 1)) none) <:+: TL.tl (pageS ls) := by rw [tl_lo (show 0 ≤ b + 1 by omega)]; exact (List.drop_suffix ..).isInfix
  have tg : TL.tl (⟨#[g]⟩ : Str) = [g] := rfl
  have g1 : ∀ c ∈ [g], c < 0x110000 := fun c hc => by rw [List.mem_singleton.mp hc]; exact hgo
  have t0 : TxtOk (cutS (pageS ls) none (some b) ++ ⟨#[g]⟩ ++ cutS (pageS ls) (some b) none) := bent_txt hb3 h4 hl40 (u := TL.tl (cutS (pageS ls) none (some b))) (g := [g]) (v := TL.tl (cutS (pageS ls) (some b) none)) (by rw [TL.tl_append, TL.tl_append, tg, List.append_assoc]) u0 v0 (by simp) g1
  have t1 : TxtOk (cutS (pageS ls) none (some b) ++ cutS (pageS ls) (some (b + 1)) none) := bent_txt hb3 h4 hl40 (u := TL.tl (cutS (pageS ls) none (some b))) (g := []) (v := TL.tl (cutS (pageS ls) (some (b + 1)) none)) (by rw [TL.tl_append]; rfl) u0 v1 (by simp) (by simp)
  have t2 : TxtOk (cutS (pageS ls) none (some b) ++ ⟨#[g]⟩ ++ cutS (pageS ls) (some (b + 1)) none) := bent_txt hb3 h4 hl40 (u := TL.tl (cutS (pageS ls) none (some b))) (g := [g]) (v := TL.tl (cutS (pageS ls) (some (b + 1)) none)) (by rw [TL.tl_append, TL.tl_append, tg, List.append_assoc]) u0 v1 (by simp) g1
  have t3 : TxtOk (pageS ls) := page_txt hb3 hne (by omega) fun l hl => ⟨(hlo.2 l hl).1, hl40 l hl⟩
  have t4 : TxtOk (pageS ls ++ Str.ofString "\n") := bent_txt hb3 h4 hl40 (u := TL.tl (pageS ls)) (g := [10]) (v := []) (by rw [TL.tl_append, tl_n]; rfl) (List.infix_refl _) (List.nil_infix) (by simp) (by simp)
  have t5 : TxtOk (pageS ls.reverse) := page_txt (fun l hl => hb3 l (List.mem_reverse.mp hl)) (by simpa using hne) (by rw [List.length_reverse]; omega) fun l hl => ⟨(hlo.2 l (List.mem_reverse.mp hl)).1, hl40 l (List.mem_reverse.mp hl)⟩
  have t6 : TxtOk (pageS (ls ++ (ls ++ ls))) := page_txt (fun l hl => hb3 l (h3 l hl)) (by simpa using hne) (by rw [List.length_append, List.length_append]; omega) fun l hl => ⟨(hlo.2 l (h3 l hl)).1, hl40 l (h3 l hl)⟩
  have t7 : TxtOk (Str.ofString "-0") := txt_of (strOk_of _) (by decide +kernel) (by decide +kernel) (by decide +kernel) (RunB.short (by decide +kernel))
  obtain ⟨d, hd, e⟩ := ixM_mem (es := [D.str (cutS (pageS ls) none (some b) ++ ⟨#[g]⟩ ++ cutS (pageS ls) (some b) none), D.str (cutS (pageS ls) none (some b) ++ cutS (pageS ls) (some (b + 1)) none), D.str (cutS (pageS ls) none (some b) ++ ⟨#[g]⟩ ++ cutS (pageS ls) (some (b + 1)) none), D.str (pageS ls), D.str (pageS ls ++ Str.ofString "\n"), D.str (pageS ls.reverse), D.str (pageS (ls ++ (ls ++ ls))), D.str (Str.ofString "-0")]) a0 (by simpa using a1)
  simp -implicitDefEqProofs [l_neSelf, l_eqSelf, key_int, key_str, keyD, defM, initM, tail_mapS, take_mapS, drop_mapS, sl0, slI, lcAll_map, lcAll_rng, forL_map, forL_rng, -List.map_take, -List.map_drop, -List.map_tail, -List.map_reverse, e]
  simp only [List.mem_cons, List.mem_nil_iff, or_false] at hd
  rcases hd with rfl | rfl | rfl | rfl | rfl | rfl | rfl | rfl
  · exact ⟨_, t0, rfl⟩
  · exact ⟨_, t1, rfl⟩
  · exact ⟨_, t2, rfl⟩
  · exact ⟨_, t3, rfl⟩
  · exact ⟨_, t4, rfl⟩
  · exact ⟨_, t5, rfl⟩
  · exact ⟨_, t6, rfl⟩
  · exact ⟨_, t7, rfl⟩

/-- Lot_str(self); slots: 0 self, 1 numbers, 2 number -/
def b_Lot_str : SM := (mRet (mM1 fJoin (mC (.str (Str.ofString "\n"))) (mLc (mItems (mFld (Str.ofString "Lot") (Str.ofString "kept") (mVar 0))) (fName 1) mYes (mM1 fJoin (mC (.str (Str.ofString " "))) (mLc (mItems (mVar 1)) (fName 2) mYes (mCallB fStrI (mCons (mVar 2) mNil)) [2])) [1])))
def f_Lot_str : FM := defM b_Lot_str [(Str.ofString "self"), (Str.ofString "numbers"), (Str.ofString "number")]
--@use text lotd
theorem Lot_str_eq {ls : List (List Int)} (h : LotOk ls) (hb : Bits4 ls) : f_Lot_str [dLot ls] = val (.d (.str (pageS ls))) := by
  have h6 := h.1
  have s1 := page_sum hb fun l hl => (h.2 l hl).2.1
  (conv => { lhs; simp -implicitDefEqProofs [l_neSelf, l_eqSelf, key_int, key_str, keyD, defM, initM, tail_mapS, take_mapS, drop_mapS, sl0, slI, lcAll_map, lcAll_rng, forL_map, forL_rng, -List.map_take, -List.map_drop, -List.map_tail, -List.map_reverse, f_Lot_str, b_Lot_str] })
  rw [List.map_map] at s1
  have s1 : (List.map ((fun x => x.length) ∘ fun x => Txt.join (Str.ofString " ") (List.map (fun x => Str.ofString (Int.repr x)) x)) ls).sum ≤ ls.length * 5000 := s1
  have s2 : ∀ l ∈ ls, (List.map ((fun x => x.length) ∘ fun x => Str.ofString (Int.repr x)) l).sum + l.length * (Str.ofString " ").length ≤ 16777216 := fun l hl => by
    have a := line_sum (hb l hl)
    have b := (h.2 l hl).2.1
    rw [List.map_map] at a
    have a : (List.map ((fun x => x.length) ∘ fun x => Str.ofString (Int.repr x)) l).sum ≤ l.length * 124 := a
    rw [sp_len]; omega
  refine (req_of ⟨by omega, fun l hl => ⟨by have := (h.2 l hl).2.1; omega, fun x hx => log_lt (hb l hl x hx) (by decide), s2 l hl⟩, by rw [nl_len]; omega⟩).trans ?_
  rfl

/-- Lot_lists(self); slots: 0 self -/
def b_Lot_lists : SM := (mRet (mFld (Str.ofString "Lot") (Str.ofString "kept") (mVar 0)))
def f_Lot_lists : FM := defM b_Lot_lists [(Str.ofString "self")]
--@use lotd
@[simp] theorem Lot_lists_eq {ls : List (List Int)} : f_Lot_lists [dLot ls] = val (.d (tL ls)) := by
  (conv => { lhs; simp -implicitDefEqProofs [l_neSelf, l_eqSelf, key_int, key_str, keyD, defM, initM, tail_mapS, take_mapS, drop_mapS, sl0, slI, lcAll_map, lcAll_rng, forL_map, forL_rng, -List.map_take, -List.map_drop, -List.map_tail, -List.map_reverse, f_Lot_lists, b_Lot_lists] })

/-- Lot_read(cls, text); slots: 0 cls, 1 text, 2 found -/
def b_Lot_read : SM := (mSeq (mSet 2 (mCall 1 f_lot_told (mCons (mVar 1) mNil)))
  (mSeq (mIf (mB (mUn fIs (mVar 2))) (mRaise1 (Str.ofString "InvalidText") (Str.ofString "given") (mVar 1)) mNext)
  (mRet (mVar 2))))
def f_Lot_read : FM := defM b_Lot_read [(Str.ofString "cls"), (Str.ofString "text"), (Str.ofString "found")]
--@use num2 lotd
theorem Lot_read_page {c : D} {ls : List (List Int)} (h : LotOk ls) (hb : Bits4 ls) : f_Lot_read [c, .str (pageS ls)] = val (.d (dLot ls)) := by
  (conv => { lhs; simp -implicitDefEqProofs [l_neSelf, l_eqSelf, key_int, key_str, keyD, defM, initM, tail_mapS, take_mapS, drop_mapS, sl0, slI, lcAll_map, lcAll_rng, forL_map, forL_rng, -List.map_take, -List.map_drop, -List.map_tail, -List.map_reverse, f_Lot_read, b_Lot_read, lot_told_page h hb] })
theorem Lot_read_lot {c : D} {s : Str} {ls : List (List Int)} (h : TxtOk s) (e : vTxt s = tL ls) (hl : LotOk ls) : f_Lot_read [c, .str s] = val (.d (dLot ls)) := by
  have e1 := lot_told_lot h e hl
  (conv => { lhs; simp -implicitDefEqProofs [l_neSelf, l_eqSelf, key_int, key_str, keyD, defM, initM, tail_mapS, take_mapS, drop_mapS, sl0, slI, lcAll_map, lcAll_rng, forL_map, forL_rng, -List.map_take, -List.map_drop, -List.map_tail, -List.map_reverse, f_Lot_read, b_Lot_read, e1] })
theorem Lot_read_bad {c : D} {s : Str} {i : D} (h : TxtOk s) (e : slipI (vTxt s) = some i) : f_Lot_read [c, .str s] = exn ⟨"InvalidText", [("given", .str s)]⟩ := by
  have e1 := lot_told_bad h e
  (conv => { lhs; simp -implicitDefEqProofs [l_neSelf, l_eqSelf, key_int, key_str, keyD, defM, initM, tail_mapS, take_mapS, drop_mapS, sl0, slI, lcAll_map, lcAll_rng, forL_map, forL_rng, -List.map_take, -List.map_drop, -List.map_tail, -List.map_reverse, f_Lot_read, b_Lot_read, e1] })
theorem Lot_read_no {c d : D} (h : d.known = true) (hs : d.isS = false) : f_Lot_read [c, d] = exn ⟨"InvalidText", [("given", d)]⟩ := by
  have e1 := lot_told_no h hs
  (conv => { lhs; simp -implicitDefEqProofs [l_neSelf, l_eqSelf, key_int, key_str, keyD, defM, initM, tail_mapS, take_mapS, drop_mapS, sl0, slI, lcAll_map, lcAll_rng, forL_map, forL_rng, -List.map_take, -List.map_drop, -List.map_tail, -List.map_reverse, f_Lot_read, b_Lot_read, e1] })

/-- law_right(law_jar_here); slots: 0 law_jar_here, 1 law_turn, 2 law_page_here, 3 law_value, 4 law_told, 5 law_line, 6 law_word -/
def b_law_right_1 : SM := (mSeq (mSet 4 (mLam f_law_caught (mCallK 1 0 1 [0] (fun ds => f_Lot_read (.cls (Str.ofString "Lot") :: ds)) mNil (mCons (mVar 2) mNil))))
  (mIf (mB (mBin fEq (mCall 1 f_law_lot_slip (mCons (mVar 3) mNil)) (mLst mNil))) (mIf (mOr (mB (mBin fNe (mIxV 4 (mC (.int 0))) (mC (.str (Str.ofString "told"))))) (mOr (mB (mBin fNe (mProp (Str.ofString "Lot") f_Lot_lists (mIxV 4 (mC (.int 1)))) (mVar 3))) (mB (mBin fNe (mStrO (Str.ofString "Lot") f_Lot_str (mIxV 4 (mC (.int 1)))) (mVar 2))))) (mRet (mC (.bl false))) mNext) (mIf (mB (mBin fNe (mVar 4) (mLst (mCons (mC (.str (Str.ofString "text"))) (mCons (mCallB fReprX (mCons (mVar 2) mNil)) mNil))))) (mRet (mC (.bl false))) mNext)))
def b_law_right : SM := (mSeq (mFor (mRng rg1 (mCons (mC (.int 10)) mNil)) (fName 1) (mSeq (mSet 2 (mCall 2 p_law_bent (mCons (mVar 0) (mCons (mCall 1 f_law_page (mCons (mCall 1 p_law_any_lot (mCons (mVar 0) mNil)) mNil)) mNil))))
  (mSeq (mSet 2 (mIfE (mB (mBin fGt (mCall 2 p_law_dip (mCons (mVar 0) (mCons (mC (.int 7)) mNil))) (mC (.int 0)))) (mVar 2) (mCall 1 p_law_odd (mCons (mVar 0) mNil))))
  (mSeq (mSet 3 (mC .non))
  (mSeq (mIf (mB (mCallB fIsi (mCons (mVar 2) (mCons (mC (.v (.ty "str"))) mNil)))) (mSet 3 (mCallB fTuple (mCons (mLc (mItems (mM1 fSplit (mVar 2) (mC (.str (Str.ofString "\n"))))) (fName 5) mYes (mCallB fTuple (mCons (mLc (mItems (mM1 fSplit (mVar 5) (mC (.str (Str.ofString " "))))) (fName 6) mYes (mCall 1 f_law_number_in (mCons (mVar 6) mNil)) [6]) mNil)) [5]) mNil))) mNext)
  b_law_right_1)))) [1, 2, 3, 4])
  (mRet (mC (.bl true))))
def f_law_right : FM := defM b_law_right [(Str.ofString "_law_jar_here"), (Str.ofString "_law_turn"), (Str.ofString "_law_page_here"), (Str.ofString "_law_value"), (Str.ofString "_law_told"), (Str.ofString "_law_line"), (Str.ofString "_law_word")]
--@use cut sok2 vald
theorem caught_text {d : D} {s : Str} (h : M.lift (fReprX [d]) = M.one (.d (.str s))) : caughtW (exn ⟨"InvalidText", [("given", d)]⟩) = val (.own [.str "text", .str s]) := by
  unfold caughtW
  rw [exn_bind, oc_x, show xtab.any "InvalidText" ["WrongValue", "WrongName", "NotPossible"] = some true from by decide +kernel, xcase_y, if_pos (show Str.ofString "InvalidText" ∈ xown by decide +kernel), law_shown_InvalidText h]
  rfl
/-- what a page may be, in this law -/
structure Pg (d : D) : Prop where
  kn : d.known = true
  rp : ∃ s, M.lift (fReprX [d]) = M.one (.d (.str s)) ∧ PyData.strOk s = true
  tx : d.isS = false ∨ ∃ s, d = .str s ∧ TxtOk s
theorem pg_str {s : Str} (h : TxtOk s) : Pg (.str s) := ⟨rfl, ⟨_, l_reprX (str_repr h.ok (by have := h.len; omega)), repr_strOk h.ok⟩, .inr ⟨s, rfl, h⟩⟩
theorem txt_small {s : Str} (h : PyData.strOk s = true) (hl : s.length ≤ 90) : TxtOk s := by
  have e := TL.len_tl s
  exact txt_of h (by omega) (by have : (TL.tl s).count 10 ≤ (TL.tl s).length := List.count_le_length; omega) (by have : (TL.tl s).count 32 ≤ (TL.tl s).length := List.count_le_length; omega) (RunB.short (by omega))
def pOk (d : D) : Bool := d.known && !d.isS && d.isPy && d.py.showable && decide (d.py.depth ≤ 60) && decide (d.py.shown.length ≤ sizeLine) && PyData.strOk d.py.shown
theorem pg_no {d : D} (h : pOk d = true) : Pg d := by
  unfold pOk at h
  simp only [Bool.and_eq_true, decide_eq_true_eq, Bool.not_eq_true'] at h
  obtain ⟨⟨⟨⟨⟨⟨h1, h2⟩, h3⟩, h4⟩, h5⟩, h6⟩, h7⟩ := h
  exact ⟨h1, ⟨_, l_reprX ⟨h3, h4, h5, h6⟩, h7⟩, .inl h2⟩
theorem odd_pg {d : D} (h : d ∈ oddM) : Pg d := by
  unfold oddM at h
  simp only [List.mem_cons, List.mem_nil_iff, or_false] at h
  rcases h with rfl | rfl | rfl | rfl | rfl | rfl | rfl | rfl | rfl | rfl | rfl | rfl | rfl | rfl | rfl | rfl | rfl | rfl | rfl | rfl | rfl | rfl | rfl | rfl | rfl | rfl | rfl | rfl <;> first
    | exact pg_str (txt_small (by decide +kernel) (by decide +kernel))
    | exact pg_no (by decide +kernel)
    | exact ⟨rfl, ⟨_, l_reprD (ks := []) ⟨by decide +kernel, by decide +kernel, by decide +kernel⟩, by decide +kernel⟩, .inl rfl⟩
    | exact ⟨rfl, ⟨_, l_reprD (ks := [(.inr "0", 1)]) ⟨by decide +kernel, by decide +kernel, by decide +kernel⟩, by decide +kernel⟩, .inl rfl⟩
/-- a text whose value is a lot's is that lot's page -/
theorem txt_page {s : Str} {ls : List (List Int)} (h : TxtOk s) (e : vTxt s = tL ls) : s = pageS ls ∧ Bits4 ls := by
  have key : ∀ {ws : List Str} {ns : List Int}, ws.map (fun w => oI (numW w)) = ns.map D.int → ws = ns.map numS ∧ ∀ x ∈ ns, numW (numS x) = some x := fun {ws} => by
    induction ws with
    | nil => intro ns q; cases ns with
      | nil => exact ⟨rfl, fun x hx => absurd hx (by simp)⟩
      | cons _ _ => cases q
    | cons w ws ih => intro ns q; cases ns with
      | nil => cases q
      | cons n ns =>
        rw [List.map_cons, List.map_cons] at q
        injection q with q1 q2
        obtain ⟨i1, i2⟩ := ih q2
        have hw : numW w = some n := by
          cases hn : numW w with
          | none => rw [hn] at q1; cases q1
          | some m => rw [hn] at q1; injection q1 with q1; rw [q1]
        have hw2 := numW_back hw
        refine ⟨by rw [List.map_cons, ← i1, ← hw2], fun x hx => ?_⟩
        exact numW_num x
  have lines : ∀ {zs : List Str} {ls : List (List Int)}, zs.map (fun l => D.tup ((Txt.split l (Str.ofString " ")).map fun w => oI (numW w))) = ls.map tI → zs.map (fun l => Txt.split l (Str.ofString " ")) = ls.map fun l => l.map numS := fun {zs} => by
    induction zs with
    | nil => intro ls q; cases ls with
      | nil => rfl
      | cons _ _ => cases q
    | cons z zs ih => intro ls q; cases ls with
      | nil => cases q
      | cons l ls =>
        rw [List.map_cons, List.map_cons] at q
        injection q with q1 q2
        injection q1 with q1
        rw [List.map_cons, List.map_cons, ih q2, (key q1).1]
  have e1 : (Txt.split s (Str.ofString "\n")).map (fun l => D.tup ((Txt.split l (Str.ofString " ")).map fun w => oI (numW w))) = ls.map tI := by injection e
  have e2 := lines e1
  have jn : ∀ {x y : Str} {d : Nat}, TL.tl y = [d] → y.cps.all (· < 256) = true → Txt.join y (Txt.split x y) = x := fun {x y d} h1 h2 => by
    refine TL.ext_tl ?_
    rw [TL.join_eq, TL.tl_join, split_cut h1 h2, h1]
    exact cutAt_spec.1
  have hz : Txt.split s (Str.ofString "\n") = ls.map lineS := by
    have : ∀ {zs : List Str} {ls : List (List Int)}, zs.map (fun l => Txt.split l (Str.ofString " ")) = ls.map (fun l => l.map numS) → zs = ls.map lineS := fun {zs} => by
      induction zs with
      | nil => intro ls q; cases ls with
        | nil => rfl
        | cons _ _ => cases q
      | cons z zs ih => intro ls q; cases ls with
        | nil => cases q
        | cons l ls =>
          rw [List.map_cons, List.map_cons] at q
          injection q with q1 q2
          rw [List.map_cons, ← ih q2]
          congr 1
          have := jn (x := z) tl_s kd_s
          rw [q1] at this
          exact this.symm
    exact this e2
  refine ⟨?_, fun l hl x hx => ?_⟩
  · have := jn (x := s) tl_n kd_n
    rw [hz] at this
    exact this.symm
  · have hm : lineS l ∈ Txt.split s (Str.ofString "\n") := by rw [hz]; exact List.mem_map.mpr ⟨l, hl, rfl⟩
    have hsp : Txt.split (lineS l) (Str.ofString " ") = l.map numS := split_line (fun z => by rw [z] at hx; simp at hx)
    have hw := ((h.wd _ hm).2.2 (numS x) (by rw [hsp]; exact List.mem_map.mpr ⟨x, hx, rfl⟩)).2
    have hd := (digW_num x).1
    have hlen : (digW (numS x)).length ≤ 100 := by
      have : (digW (numS x)).length ≤ (TL.tl (numS x)).length := by
        unfold digW
        split
        · rw [List.length_drop]; omega
        · exact Nat.le_refl _
      rw [← TL.len_tl] at this
      omega
    have hall : ∀ c ∈ digW (numS x), isDg c = true := by rw [hd]; exact List.all_eq_true.mp (numL_isDg _)
    have h1 := digits_lt (digW (numS x)) 0 hall
    have h2 : (10 : Nat) ^ (digW (numS x)).length ≤ 10 ^ 100 := Nat.pow_le_pow_right (by decide) hlen
    have h3 : NumText.digitsVal (digW (numS x)) = x.natAbs := by rw [hd]; exact TL.numL_val _
    have h4 : NumText.digitsVal (digW (numS x)) = (digW (numS x)).foldl (fun acc c => acc * 10 + (c - 48)) 0 := rfl
    have h5 : x.natAbs < 10 ^ 100 := by rw [← h3, h4]; omega
    exact Nat.lt_of_lt_of_le h5 (by decide +kernel)
def vL (s : Str) : List D := (Txt.split s (Str.ofString "\n")).map fun l => D.tup ((Txt.split l (Str.ofString " ")).map fun w => oI (numW w))
theorem vL_txt {s : Str} : D.tup (vL s) = vTxt s := rfl
theorem slip_kind {d i : D} (h : slipI d = some i) : PyData.strOk i.py.shown = true := by
  have h2 : i = .non ∨ ∃ k : Nat, i = .int k := by
    cases d <;> first | (injection h with h; exact .inl h.symm) | skip
    rename_i ds
    by_cases hne : ds = []
    · subst hne; injection h with h; exact .inl h.symm
    · rw [slipI_tup hne] at h
      cases hf : (List.range ds.length).find? fun k => decide (k = 6) || !listD (nth ds k) with
      | none => rw [hf] at h; cases h
      | some k => rw [hf] at h; injection h with h; exact .inr ⟨k, h.symm⟩
  rcases h2 with rfl | ⟨k, rfl⟩
  · decide +kernel
  · exact strOk_of _
theorem l2_okT {a b : Str} (ha : PyData.strOk a = true) (hb : PyData.strOk b = true) : EqOk 60 (.lst [.str a, .str b]) := by
  rw [eqOk_lst (n := 59), eqOkA_cons, eqOkA_cons, eqOk_str, eqOk_str]; exact ⟨ha, hb, eqOkA_nil⟩
theorem eqOk_tLT {ls : List (List Int)} : EqOk 60 (tL ls) := by
  rw [tL, eqOk_tup (n := 59)]
  intro x hx
  obtain ⟨l, _, rfl⟩ := List.mem_map.mp hx
  rw [eqOk_tup (n := 58)]
  intro y hy
  obtain ⟨i, _, rfl⟩ := List.mem_map.mp hy
  exact eqOk_int
theorem num_all {s : Str} (h : TxtOk s) (z : Sl) : lcAll (fun a => M.req ((¬(Str.ofString " ").length = 0 ∧ a.length ≤ 16777214) ∧ (Txt.split a (Str.ofString " ")).length ≤ 16777216) ((lcAll (fun b => (quiet (put (f_law_number_in [D.str b]) (z ++ [some (.d (.str a)), some (.d (.str b))])) (z ++ [some (.d (.str a)), some (.d (.str b))])).bind fun y => M.one [y.frz]) (Txt.split a (Str.ofString " "))).bind fun a => M.one [D.tup a])) (Txt.split s (Str.ofString "\n")) = M.one (vL s) := by
  unfold vL
  have s1 : (Str.ofString " ").length = 1 := sp_len
  rw [lcAll_congr (step' := fun l => M.one [D.tup ((Txt.split l (Str.ofString " ")).map fun w => oI (numW w))]) fun l hl => ?_, lcAll_one1]
  obtain ⟨h1, h2, h3⟩ := h.wd l hl
  rw [req_of ⟨⟨by omega, by omega⟩, by omega⟩, lcAll_congr (step' := fun w => M.one [oI (numW w)]) fun w hw => ?_, lcAll_one1]
  · rfl
  · obtain ⟨w1, w2⟩ := h3 w hw
    simp -implicitDefEqProofs [l_neSelf, l_eqSelf, key_int, key_str, keyD, defM, initM, tail_mapS, take_mapS, drop_mapS, sl0, slI, lcAll_map, lcAll_rng, forL_map, forL_rng, -List.map_take, -List.map_drop, -List.map_tail, -List.map_reverse, law_number_in_eq w1 (show w.length ≤ 500 by omega)]
theorem law_right_sat : (f_law_right [.jar]).sat fun r => r = .v (.d (.bl true)) := by
  simp -implicitDefEqProofs [l_neSelf, l_eqSelf, key_int, key_str, keyD, defM, initM, tail_mapS, take_mapS, drop_mapS, sl0, slI, lcAll_map, lcAll_rng, forL_map, forL_rng, -List.map_take, -List.map_drop, -List.map_tail, -List.map_reverse, f_law_right, b_law_right, b_law_right_1]
  refine sat_for (fun _ ρ => ρ = [some (.d .jar), none, none, none, none, none, none]) rfl ?_ fun ρ e => by subst e; simp -implicitDefEqProofs [l_neSelf, l_eqSelf, key_int, key_str, keyD, defM, initM, tail_mapS, take_mapS, drop_mapS, sl0, slI, lcAll_map, lcAll_rng, forL_map, forL_rng, -List.map_take, -List.map_drop, -List.map_tail, -List.map_reverse]
  rintro a l' ρ rfl
  simp -implicitDefEqProofs [l_neSelf, l_eqSelf, key_int, key_str, keyD, defM, initM, tail_mapS, take_mapS, drop_mapS, sl0, slI, lcAll_map, lcAll_rng, forL_map, forL_rng, -List.map_take, -List.map_drop, -List.map_tail, -List.map_reverse, -List.mem_cons]
  intro ls hls
  obtain ⟨hlo, _, h4, hbd⟩ := id hls
  have hb : Bits4 ls := fun l hl x hx => by have := hbd l hl x hx; omega
  have epg := law_page_eq hlo hb
  have ebt := law_bent_eq hls
  have n1 : (Str.ofString "\n").length = 1 := nl_len
  simp -implicitDefEqProofs [l_neSelf, l_eqSelf, key_int, key_str, keyD, defM, initM, tail_mapS, take_mapS, drop_mapS, sl0, slI, lcAll_map, lcAll_rng, forL_map, forL_rng, -List.map_take, -List.map_drop, -List.map_tail, -List.map_reverse, epg, ebt, -List.mem_cons]
  intro s hs z z0 z1
  by_cases c : 0 < z
  · simp -implicitDefEqProofs [l_neSelf, l_eqSelf, key_int, key_str, keyD, defM, initM, tail_mapS, take_mapS, drop_mapS, sl0, slI, lcAll_map, lcAll_rng, forL_map, forL_rng, -List.map_take, -List.map_drop, -List.map_tail, -List.map_reverse, c, n1, -List.mem_cons]
    have h1 := hs.len
    have h2 := hs.ln
    refine ⟨⟨by omega, by omega⟩, ?_⟩
    erw [num_all hs [some (.d .jar), some (.d (.int a)), some (.d (.str s)), some (.d .non), none]]
    obtain ⟨sh, r1, r2⟩ := (pg_str hs).rp
    have es := law_lot_slip_gen hs.val
    rw [← vL_txt] at es
    cases hsl : slipI (vTxt s) with
    | none =>
      rw [vL_txt, hsl] at es
      obtain ⟨l2, e, hl2⟩ := slip_good hsl
      have ec : caughtW (M.req (∀ i : Nat, i ∈ [0] → i = 0) (f_Lot_read [.cls (Str.ofString "Lot"), .str s])) = val (.own [.str "told", dLot l2]) := by
        rw [req_of (by simp), Lot_read_lot hs e hl2]; rfl
      obtain ⟨e1, e2⟩ := txt_page hs e
      have e3 : D.tup (vL s) = tL l2 := e
      rw [e] at es
      have hne : M.lift (fNe (tL l2) (tL l2)) = M.one (.d (.bl false)) := l_neSelf eqOk_tLT
      have hst := Lot_str_eq hl2 e2
      rw [← e1] at hst
      have hs2 := neS hs.ok hs.ok
      have es : f_law_lot_slip [tL l2] = val (.own []) := es
      have htd := neS (strOk_of "told") (strOk_of "told")
      simp -implicitDefEqProofs [l_neSelf, l_eqSelf, key_int, key_str, keyD, defM, initM, tail_mapS, take_mapS, drop_mapS, sl0, slI, lcAll_map, lcAll_rng, forL_map, forL_rng, -List.map_take, -List.map_drop, -List.map_tail, -List.map_reverse, ec, e3, es, hne, hst, hs2, htd, -List.mem_cons]
    | some i =>
      rw [vL_txt, hsl] at es
      have ec : caughtW (M.req (∀ i : Nat, i ∈ [0] → i = 0) (f_Lot_read [.cls (Str.ofString "Lot"), .str s])) = val (.own [.str "text", .str sh]) := by
        rw [req_of (by simp), Lot_read_bad hs hsl]; exact caught_text r1
      have es : f_law_lot_slip [D.tup (vL s)] = val (.own [.str "lists", .str i.py.shown]) := es
      have hq := l_eqL0E (l2_okT (strOk_of "lists") (slip_kind hsl))
      have hne := l_neSelf (l2_okT (strOk_of "text") r2)
      simp -implicitDefEqProofs [l_neSelf, l_eqSelf, key_int, key_str, keyD, defM, initM, tail_mapS, take_mapS, drop_mapS, sl0, slI, lcAll_map, lcAll_rng, forL_map, forL_rng, -List.map_take, -List.map_drop, -List.map_tail, -List.map_reverse, ec, es, hq, r1, hne, -List.mem_cons]
  · simp -implicitDefEqProofs [l_neSelf, l_eqSelf, key_int, key_str, keyD, defM, initM, tail_mapS, take_mapS, drop_mapS, sl0, slI, lcAll_map, lcAll_rng, forL_map, forL_rng, -List.map_take, -List.map_drop, -List.map_tail, -List.map_reverse, c, n1, -List.mem_cons]
    intro d hd
    obtain ⟨k1, ⟨sh, k2, k3⟩, k4⟩ := odd_pg hd
    rcases k4 with k4 | ⟨s, rfl, hs⟩
    · have ec : caughtW (M.req (∀ i : Nat, i ∈ [0] → i = 0) (f_Lot_read [.cls (Str.ofString "Lot"), d])) = val (.own [.str "text", .str sh]) := by
        rw [req_of (by simp), Lot_read_no k1 k4]; exact caught_text k2
      have es : f_law_lot_slip [.non] = val (.own [.str "lists", .str D.non.py.shown]) := law_lot_slip_gen (d := .non) (.other rfl rfl)
      have hq := l_eqL0E (l2_okT (strOk_of "lists") (slip_kind (d := .non) rfl))
      have hne := l_neSelf (l2_okT (strOk_of "text") k3)
      simp -implicitDefEqProofs [l_neSelf, l_eqSelf, key_int, key_str, keyD, defM, initM, tail_mapS, take_mapS, drop_mapS, sl0, slI, lcAll_map, lcAll_rng, forL_map, forL_rng, -List.map_take, -List.map_drop, -List.map_tail, -List.map_reverse, l_isi_str k1, k4, ec, es, hq, k2, hne, -List.mem_cons]
    · simp -implicitDefEqProofs [l_neSelf, l_eqSelf, key_int, key_str, keyD, defM, initM, tail_mapS, take_mapS, drop_mapS, sl0, slI, lcAll_map, lcAll_rng, forL_map, forL_rng, -List.map_take, -List.map_drop, -List.map_tail, -List.map_reverse, n1, -List.mem_cons]
      have h1 := hs.len
      have h2 := hs.ln
      refine ⟨⟨by omega, by omega⟩, ?_⟩
      erw [num_all hs [some (.d .jar), some (.d (.int a)), some (.d (.str s)), some (.d .non), none]]
      obtain ⟨sh, r1, r2⟩ := (pg_str hs).rp
      have es := law_lot_slip_gen hs.val
      rw [← vL_txt] at es
      cases hsl : slipI (vTxt s) with
      | none =>
        rw [vL_txt, hsl] at es
        obtain ⟨l2, e, hl2⟩ := slip_good hsl
        have ec : caughtW (M.req (∀ i : Nat, i ∈ [0] → i = 0) (f_Lot_read [.cls (Str.ofString "Lot"), .str s])) = val (.own [.str "told", dLot l2]) := by
          rw [req_of (by simp), Lot_read_lot hs e hl2]; rfl
        obtain ⟨e1, e2⟩ := txt_page hs e
        have e3 : D.tup (vL s) = tL l2 := e
        rw [e] at es
        have hne : M.lift (fNe (tL l2) (tL l2)) = M.one (.d (.bl false)) := l_neSelf eqOk_tLT
        have hst := Lot_str_eq hl2 e2
        rw [← e1] at hst
        have hs2 := neS hs.ok hs.ok
        have es : f_law_lot_slip [tL l2] = val (.own []) := es
        have htd := neS (strOk_of "told") (strOk_of "told")
        simp -implicitDefEqProofs [l_neSelf, l_eqSelf, key_int, key_str, keyD, defM, initM, tail_mapS, take_mapS, drop_mapS, sl0, slI, lcAll_map, lcAll_rng, forL_map, forL_rng, -List.map_take, -List.map_drop, -List.map_tail, -List.map_reverse, ec, e3, es, hne, hst, hs2, htd, -List.mem_cons]
      | some i =>
        rw [vL_txt, hsl] at es
        have ec : caughtW (M.req (∀ i : Nat, i ∈ [0] → i = 0) (f_Lot_read [.cls (Str.ofString "Lot"), .str s])) = val (.own [.str "text", .str sh]) := by
          rw [req_of (by simp), Lot_read_bad hs hsl]; exact caught_text r1
        have es : f_law_lot_slip [D.tup (vL s)] = val (.own [.str "lists", .str i.py.shown]) := es
        have hq := l_eqL0E (l2_okT (strOk_of "lists") (slip_kind hsl))
        have hne := l_neSelf (l2_okT (strOk_of "text") r2)
        simp -implicitDefEqProofs [l_neSelf, l_eqSelf, key_int, key_str, keyD, defM, initM, tail_mapS, take_mapS, drop_mapS, sl0, slI, lcAll_map, lcAll_rng, forL_map, forL_rng, -List.map_take, -List.map_drop, -List.map_tail, -List.map_reverse, ec, es, hq, r1, hne, -List.mem_cons]
def p_law_right : FM := fun ds => (val (.d (.bl true))).req (ds = [.jar])
@[simp] theorem law_right_eq : p_law_right [.jar] = val (.d (.bl true)) := req_of rfl
theorem o_law_right : ∀ ds : List D, ds.length = 1 → (f_law_right ds).le (p_law_right ds) := fun ds _ => le_val fun e => by subst e; exact law_right_sat

/-- law(law_script); slots: 0 law_script, 1 law_k -/
def b_law : SM := (mSeq (mFor (mRng rg1 (mCons (mCallB fMax2 (mCons (mC (.int 2)) (mCons (mCallB fMin2 (mCons (mCallB fLen (mCons (mVar 0) mNil)) (mCons (mC (.int 5)) mNil))) mNil))) mNil)) (fName 1) (mIf (mNot (mB (mCall 1 p_law_right (mCons (mCall 2 p_law_jar (mCons (mVar 0) (mCons (mVar 1) mNil))) mNil)))) (mRet (mC (.bl false))) mNext) [1])
  (mRet (mC (.bl true))))
def f_law : FM := defM b_law [(Str.ofString "_law_script"), (Str.ofString "_law_k")]
theorem law_true : ∀ ns : List Int, ns.length ≤ 63 → (f_law [.rls (ns.map .int)]).wp [] fun r _ => r = .v (.d (.bl true)) := by
  intro ns hn
  refine law_sat ?_
  simp -implicitDefEqProofs [l_neSelf, l_eqSelf, key_int, key_str, keyD, defM, initM, tail_mapS, take_mapS, drop_mapS, sl0, slI, lcAll_map, lcAll_rng, forL_map, forL_rng, -List.map_take, -List.map_drop, -List.map_tail, -List.map_reverse, f_law, b_law]
  refine ⟨⟨by omega, by omega⟩, ?_⟩
  rw [forL_range (fun _ => [some (.d (.rls (ns.map .int))), none]) rfl fun i hi => ?_]
  · simp -implicitDefEqProofs [l_neSelf, l_eqSelf, key_int, key_str, keyD, defM, initM, tail_mapS, take_mapS, drop_mapS, sl0, slI, lcAll_map, lcAll_rng, forL_map, forL_rng, -List.map_take, -List.map_drop, -List.map_tail, -List.map_reverse]
  · have e := law_jar_eq (ns := ns) (k := (i : Int)) ⟨by omega, by omega⟩ hn
    simp -implicitDefEqProofs [l_neSelf, l_eqSelf, key_int, key_str, keyD, defM, initM, tail_mapS, take_mapS, drop_mapS, sl0, slI, lcAll_map, lcAll_rng, forL_map, forL_rng, -List.map_take, -List.map_drop, -List.map_tail, -List.map_reverse, e]

def top (i : Nat) : Stmt := PySem.Challenge.pw_onesums_k04_whole_texts_of_lots.main.body.getD i (.Pass ⟨0, 0, 0, 0⟩)
theorem xi_InvalidLists : XInit (Str.ofString "self") (Str.ofString "index") (Str.ofString "index") (clsB (top 4) 0) := ⟨⟨rfl, rfl, rfl, by decide +kernel, rfl, by decide +kernel, by decide +kernel⟩, ⟨_, _, _, _, rfl⟩, .inl rfl, .inl rfl, by decide, by decide, by decide, by decide, fun _ _ _ _ _ _ _ us hl => match us, hl with | [_, _], _ => rfl⟩
theorem xi_InvalidText : XInit (Str.ofString "self") (Str.ofString "given") (Str.ofString "given") (clsB (top 3) 0) := ⟨⟨rfl, rfl, rfl, by decide +kernel, rfl, by decide +kernel, by decide +kernel⟩, ⟨_, _, _, _, rfl⟩, .inl rfl, .inl rfl, by decide, by decide, by decide, by decide, fun _ _ _ _ _ _ _ us hl => match us, hl with | [_, _], _ => rfl⟩
/-- what the top has left beside the defs -/
structure Top (w : World) (K : PySem.W.Frag) (mg : Str → Option Value) : Prop where
  n_abs : mg (Str.ofString "abs") = none
  n_all : mg (Str.ofString "all") = none
  n_bool : mg (Str.ofString "bool") = none
  n_int : mg (Str.ofString "int") = none
  n_isinstance : mg (Str.ofString "isinstance") = none
  n_len : mg (Str.ofString "len") = none
  n_list : mg (Str.ofString "list") = none
  n_max : mg (Str.ofString "max") = none
  n_min : mg (Str.ofString "min") = none
  n_range : mg (Str.ofString "range") = none
  n_repr : mg (Str.ofString "repr") = none
  n_set : mg (Str.ofString "set") = none
  n_sorted : mg (Str.ofString "sorted") = none
  n_str : mg (Str.ofString "str") = none
  n_tuple : mg (Str.ofString "tuple") = none
  c_FIGURES : ∃ t, mg (Str.ofString "FIGURES") = some (.str (Str.ofString "0123456789") t)
  c_MOST_LISTS : ∃ t, mg (Str.ofString "MOST_LISTS") = some (.int (6) t)
  c_MOST_NUMBERS : ∃ t, mg (Str.ofString "MOST_NUMBERS") = some (.int (40) t)
  fx_Lot_kept : FldX K mg (Str.ofString "Lot") (Str.ofString "kept")
  isi_Lot : IsiX K mg (Str.ofString "Lot")
  sub_Lot : (InsX K mg (Str.ofString "Lot") ∧ SubX K mg (Str.ofString "Lot") (Str.ofString "Lot") ((Str.ofString "Lot") == (Str.ofString "Lot")))
  nv_InvalidLists : ∃ a, mg (Str.ofString "InvalidLists") = some (.ref a)
  nv_NotPossible : ∃ a, mg (Str.ofString "NotPossible") = some (.ref a)
  nv_WrongName : ∃ a, mg (Str.ofString "WrongName") = some (.ref a)
  nv_WrongValue : ∃ a, mg (Str.ofString "WrongValue") = some (.ref a)
  nm_ArithmeticError : NmG mg (Str.ofString "ArithmeticError")
  nm_InvalidText : NmG mg (Str.ofString "InvalidText")
  nm_LookupError : NmG mg (Str.ofString "LookupError")
  nm_NotPossible : NmG mg (Str.ofString "NotPossible")
  nm_ValueError : NmG mg (Str.ofString "ValueError")
  nm_WrongName : NmG mg (Str.ofString "WrongName")
  nm_WrongValue : NmG mg (Str.ofString "WrongValue")
  x1_InvalidLists : XK1 K mg (Str.ofString "InvalidLists") (Str.ofString "index")
  x1_InvalidText : XK1 K mg (Str.ofString "InvalidText") (Str.ofString "given")
  xt : XTabOk K mg xtab
  xo : ∀ c ∈ xown, ∃ Ca, mg c = some (.ref Ca)
  xf : XFldOk K mg xfld
  xis : XIsOk K mg xist
  tb_law_right : TabX K mg (Str.ofString "_law_right")
abbrev s_is_integer : Stmt := top 11
theorem sc_is_integer : FnScope [(Str.ofString "value")] [(Str.ofString "value")] (defScope s_is_integer) := ⟨rfl, rfl, rfl, by decide +kernel, rfl, by decide +kernel, by decide +kernel⟩
theorem d_is_integer {P : Program} {w : World} {K : PySem.W.Frag} {mg : Str → Option Value} {base : Heap} (r : Raw K mg (Str.ofString "is_integer") s_is_integer) (T : Top w K mg) : Df P w K mg base 1 (Str.ofString "is_integer") s_is_integer [(Str.ofString "value")] (tf f_is_integer) :=
  have nd := sc_is_integer.nd
  df_q (b := b_is_integer) r sc_is_integer (fun _ _ _ _ _ _ us hl => match us, hl with | [_], _ => rfl) (fun _ _ => M.le_refl _) (fun f cdv A outer s H E W hG C =>
  (qss_one (qs_ret (qe_and (qe_callB call_isi cd_isi (by rfl) T.n_isinstance (by decide +kernel) (qa_cons (qe_var 0) (qa_cons (qe_bty (by rfl) T.n_int (by decide +kernel)) qa_nil))) (qe_one (qe_not (qe_callB call_isi cd_isi (by rfl) T.n_isinstance (by decide +kernel) (qa_cons (qe_var 0) (qa_cons (qe_bty (by rfl) T.n_bool (by decide +kernel)) qa_nil)))))))))
abbrev s_is_list : Stmt := top 12
theorem sc_is_list : FnScope [(Str.ofString "value"), (Str.ofString "number"), (Str.ofString "k")] [(Str.ofString "value")] (defScope s_is_list) := ⟨rfl, rfl, rfl, by decide +kernel, rfl, by decide +kernel, by decide +kernel⟩
theorem d_is_list {P : Program} {w : World} {K : PySem.W.Frag} {mg : Str → Option Value} {base : Heap} (r : Raw K mg (Str.ofString "is_list") s_is_list) (T : Top w K mg) (D_is_integer : Df P w K mg base 1 (Str.ofString "is_integer") s_is_integer [(Str.ofString "value")] (tf f_is_integer)) : Df P w K mg base 2 (Str.ofString "is_list") s_is_list [(Str.ofString "value")] (tf f_is_list) :=
  have nd := sc_is_list.nd
  df_q (b := b_is_list) r sc_is_list (fun _ _ _ _ _ _ us hl => match us, hl with | [_], _ => rfl) (fun _ _ => M.le_refl _) (fun f cdv A outer s H E W hG C =>
  (qss_cons (qs_if (QW.pt (qw_or (qt_not (qt_val (qe_callB call_isi cd_isi (by rfl) T.n_isinstance (by decide +kernel) (qa_cons (qe_var 0) (qa_cons (qe_bty (by rfl) T.n_tuple (by decide +kernel)) qa_nil))))) (qw_or1 (qt_not (qt_chain op_le op_le od_le od_le qe_int (qe_callB call_len cd_len (by rfl) T.n_len (by decide +kernel) (qa_cons (qe_var 0) qa_nil)) (qe_gint T.c_MOST_NUMBERS)))))) (qss_one (qs_ret qe_bl)) qss_nil)
  (qss_cons (qs_if (qt_not (qt_val (qe_callB (cr_all rfl) cd_all (by rfl) T.n_all (by decide +kernel) (qa_cons (qe_lc (own := [((Str.ofString "number"), 1)]) nd (qi_seq (qe_var 0)) (blkOk_by (by kernel_rfl)) (fun _ _ _ _ _ => (tg_name nd)) (tin_name (by decide)) (fun _ _ _ _ _ => qts_nil) (fun _ _ _ _ _ => (qe_callD (C.blk _ _ _ _ _ PassesOwn.never) hG D_is_integer (by decide) (qa_cons (qe_var 1) qa_nil)))) qa_nil)))) (qss_one (qs_ret qe_bl)) qss_nil)
  (qss_one (qs_ret (qe_callB (cr_all rfl) cd_all (by rfl) T.n_all (by decide +kernel) (qa_cons (qe_lc (own := [((Str.ofString "k"), 2)]) nd (qi_range1 (qa_cons (qe_op op_sub od_sub (qe_callB call_len cd_len (by rfl) T.n_len (by decide +kernel) (qa_cons (qe_var 0) qa_nil)) qe_int) qa_nil) (by rfl) T.n_range) (blkOk_by (by kernel_rfl)) (fun _ _ _ _ _ => (tg_name nd)) (tin_name (by decide)) (fun _ _ _ _ _ => qts_nil) (fun _ _ _ _ _ => (qe_cmp op_lt od_lt (qe_ixV 0 (qe_var 2)) (qe_ixV 0 (qe_op or_add od_add (qe_var 2) qe_int)) (nomark _)))) qa_nil)))))))
abbrev s_check_lists : Stmt := top 13
theorem sc_check_lists : FnScope [(Str.ofString "lists"), (Str.ofString "index")] [(Str.ofString "lists")] (defScope s_check_lists) := ⟨rfl, rfl, rfl, by decide +kernel, rfl, by decide +kernel, by decide +kernel⟩
theorem d_check_lists {P : Program} {w : World} {K : PySem.W.Frag} {mg : Str → Option Value} {base : Heap} (r : Raw K mg (Str.ofString "check_lists") s_check_lists) (T : Top w K mg) (D_is_list : Df P w K mg base 2 (Str.ofString "is_list") s_is_list [(Str.ofString "value")] (tf f_is_list)) : Df P w K mg base 3 (Str.ofString "check_lists") s_check_lists [(Str.ofString "lists")] (tf f_check_lists) :=
  have nd := sc_check_lists.nd
  df_q (b := b_check_lists) r sc_check_lists (fun _ _ _ _ _ _ us hl => match us, hl with | [_], _ => rfl) (fun _ _ => M.le_refl _) (fun f cdv A outer s H E W hG C =>
  (qss_cons (qs_if (QW.pt (qw_or (qt_not (qt_val (qe_callB call_isi cd_isi (by rfl) T.n_isinstance (by decide +kernel) (qa_cons (qe_var 0) (qa_cons (qe_bty (by rfl) T.n_tuple (by decide +kernel)) qa_nil))))) (qw_or1 (qt_cmp (or_eqA C.u64) od_eq (qe_var 0) (qe_tup qa_nil) (nomark _))))) (qss_one (qs_raise1 C hG T.x1_InvalidLists (by decide) qe_non)) qss_nil)
  (qss_one (qs_for [1] C.po (qi_range1 (qa_cons (qe_callB call_len cd_len (by rfl) T.n_len (by decide +kernel) (qa_cons (qe_var 0) qa_nil)) qa_nil) (by rfl) T.n_range) (tg_name nd) (qss_one (qs_if (QW.pt (qw_or (qt_cmp (or_eqA C.u64) od_eq (qe_var 1) (qe_gint T.c_MOST_LISTS) (nomark _)) (qw_or1 (qt_not (qt_val (qe_callD C hG D_is_list (by decide) (qa_cons (qe_ixV 0 (qe_var 1)) qa_nil))))))) (qss_one (qs_raise1 C hG T.x1_InvalidLists (by decide) (qe_var 1))) qss_nil))))))
abbrev s_number_told : Stmt := top 14
theorem sc_number_told : FnScope [(Str.ofString "word"), (Str.ofString "digits"), (Str.ofString "figure")] [(Str.ofString "word")] (defScope s_number_told) := ⟨rfl, rfl, rfl, by decide +kernel, rfl, by decide +kernel, by decide +kernel⟩
theorem d_number_told {P : Program} {w : World} {K : PySem.W.Frag} {mg : Str → Option Value} {base : Heap} (r : Raw K mg (Str.ofString "number_told") s_number_told) (T : Top w K mg) : Df P w K mg base 1 (Str.ofString "number_told") s_number_told [(Str.ofString "word")] (tf f_number_told) :=
  have nd := sc_number_told.nd
  df_q (b := b_number_told) r sc_number_told (fun _ _ _ _ _ _ us hl => match us, hl with | [_], _ => rfl) (fun _ _ => M.le_refl _) (fun f cdv A outer s H E W hG C =>
  (qss_cons (qs_set nd (qe_if (qt_cmp (or_eqA C.u64) od_eq (qe_sl (qe_var 0) qo_none (qo_some qe_int)) qe_str (nomark _)) (qe_sl (qe_var 0) (qo_some qe_int) qo_none) (qe_var 0)))
  (qss_cons (qs_if (QW.pt (qw_or (qt_cmp (or_eqA C.u64) od_eq (qe_var 1) qe_str (nomark _)) (qw_or1 (qt_not (qt_val (qe_callB (cr_all rfl) cd_all (by rfl) T.n_all (by decide +kernel) (qa_cons (qe_lc (own := [((Str.ofString "figure"), 2)]) nd (qi_chars (qe_var 1)) (blkOk_by (by kernel_rfl)) (fun _ _ _ _ _ => (tg_name nd)) (tin_name (by decide)) (fun _ _ _ _ _ => qts_nil) (fun _ _ _ _ _ => (qe_cmp op_in_sign od_inS (qe_var 2) (qe_gstr T.c_FIGURES) (by rfl)))) qa_nil))))))) (qss_one (qs_ret qe_non)) qss_nil)
  (qss_cons (qs_if (QW.pt (qw_and (qt_cmp (or_eqA C.u64) od_eq (qe_ixV 1 qe_int) qe_str (nomark _)) (qw_and1 (qt_cmp (or_neA C.u64) od_ne (qe_var 0) qe_str (nomark _))))) (qss_one (qs_ret qe_non)) qss_nil)
  (qss_one (qs_ret (qe_callTy call_int_str cd_intS (by rfl) T.n_int (by decide +kernel) (qa_cons (qe_var 0) qa_nil))))))))
abbrev s_Lot_init : Stmt := clsB (top 16) 0
theorem sc_Lot_init : FnScope [(Str.ofString "self"), (Str.ofString "lists")] [(Str.ofString "self"), (Str.ofString "lists")] (defScope s_Lot_init) := ⟨rfl, rfl, rfl, by decide +kernel, rfl, by decide +kernel, by decide +kernel⟩
theorem d_Lot_init {P : Program} {w : World} {K : PySem.W.Frag} {mg : Str → Option Value} {base : Heap} (r : RawI K mg (Str.ofString "Lot") (Str.ofString "Lot.__init__") s_Lot_init) (T : Top w K mg) (D_check_lists : Df P w K mg base 3 (Str.ofString "check_lists") s_check_lists [(Str.ofString "lists")] (tf f_check_lists)) : DfI P w K mg base 4 (Str.ofString "Lot") (Str.ofString "Lot.__init__") s_Lot_init [(Str.ofString "self"), (Str.ofString "lists")] (tf f_Lot_init) :=
  have nd := sc_Lot_init.nd
  dfi_q (b := b_Lot_init) r sc_Lot_init (fun _ _ _ _ _ _ us hl => match us, hl with | [_, _], _ => rfl) (fun _ _ => M.le_refl _) (fun f cdv A outer s H H0 E W hG C =>
  (qss_cons (qs_expr (qe_callD C hG D_check_lists (by decide) (qa_cons (qe_var 1) qa_nil)))
  (qss_one (qs_stF (Str.ofString "Lot") 0 hG T.fx_Lot_kept (qe_var 1)))))
abbrev s_lot_told : Stmt := top 15
theorem sc_lot_told : FnScope [(Str.ofString "text"), (Str.ofString "lists"), (Str.ofString "line"), (Str.ofString "word")] [(Str.ofString "text")] (defScope s_lot_told) := ⟨rfl, rfl, rfl, by decide +kernel, rfl, by decide +kernel, by decide +kernel⟩
theorem d_lot_told {P : Program} {w : World} {K : PySem.W.Frag} {mg : Str → Option Value} {base : Heap} (r : Raw K mg (Str.ofString "lot_told") s_lot_told) (T : Top w K mg) (D_Lot_init : DfI P w K mg base 4 (Str.ofString "Lot") (Str.ofString "Lot.__init__") s_Lot_init [(Str.ofString "self"), (Str.ofString "lists")] (tf f_Lot_init)) (D_number_told : Df P w K mg base 1 (Str.ofString "number_told") s_number_told [(Str.ofString "word")] (tf f_number_told)) : Df P w K mg base 6 (Str.ofString "lot_told") s_lot_told [(Str.ofString "text")] (tf f_lot_told) :=
  have nd := sc_lot_told.nd
  df_q (b := b_lot_told) r sc_lot_told (fun _ _ _ _ _ _ us hl => match us, hl with | [_], _ => rfl) (fun _ _ => M.le_refl _) (fun f cdv A outer s H E W hG C =>
  (qss_cons (qs_if (qt_not (qt_val (qe_callB call_isi cd_isi (by rfl) T.n_isinstance (by decide +kernel) (qa_cons (qe_var 0) (qa_cons (qe_bty (by rfl) T.n_str (by decide +kernel)) qa_nil))))) (qss_one (qs_ret qe_non)) qss_nil)
  (qss_cons (qs_set nd (qe_callTy call_tuple_of cd_tuple (by rfl) T.n_tuple (by decide +kernel) (qa_cons (qe_lc (own := [((Str.ofString "line"), 2)]) nd (qi_seq (qe_split (qe_var 0) qe_str)) (blkOk_by (by kernel_rfl)) (fun _ _ _ _ _ => (tg_name nd)) (tin_name (by decide)) (fun _ _ _ _ _ => qts_nil) (fun _ _ _ _ _ => (qe_callTy call_tuple_of cd_tuple (by rfl) T.n_tuple (by decide +kernel) (qa_cons (qe_lc (own := [((Str.ofString "word"), 3)]) nd (qi_seq (qe_split (qe_var 2) qe_str)) (blkOk_by (by kernel_rfl)) (fun _ _ _ _ _ => (tg_name nd)) (tin_name (by decide)) (fun _ _ _ _ _ => qts_nil) (fun _ _ _ _ _ => (qe_callD (C.blk _ _ _ _ _ PassesOwn.never) hG D_number_told (by decide) (qa_cons (qe_var 3) qa_nil)))) qa_nil)))) qa_nil)))
  (qss_one (qs_try C hG T.xt T.xo (fun T' pn xe C => (qss_one (qs_ret (qe_make false C hG D_Lot_init (by decide) (qa_cons (qe_var 1) qa_nil))))) (.cons (test_1 (nv_own T.nv_InvalidLists)) trivial (fun a pn C => (qss_one (qs_ret qe_non))) .nil) nd)))))
abbrev s_law_jar : Stmt := top 18
theorem sc_law_jar : FnScope [(Str.ofString "_law_script"), (Str.ofString "_law_k"), (Str.ofString "_law_churned"), (Str.ofString "_law_cell"), (Str.ofString "_law_own"), (Str.ofString "_law_digits")] [(Str.ofString "_law_script"), (Str.ofString "_law_k")] (defScope s_law_jar) := ⟨rfl, rfl, rfl, by decide +kernel, rfl, by decide +kernel, by decide +kernel⟩
theorem d_law_jar {P : Program} {w : World} {K : PySem.W.Frag} {mg : Str → Option Value} {base : Heap} (r : Raw K mg (Str.ofString "_law_jar") s_law_jar) (T : Top w K mg) : Df P w K mg base 1 (Str.ofString "_law_jar") s_law_jar [(Str.ofString "_law_script"), (Str.ofString "_law_k")] (tf f_law_jar) :=
  have nd := sc_law_jar.nd
  df_q (b := b_law_jar) r sc_law_jar (fun _ _ _ _ _ _ us hl => match us, hl with | [_, _], _ => rfl) (fun _ _ => M.le_refl _) (fun f cdv A outer s H E W hG C =>
  (qss_cons (qs_set nd (qe_op or_add od_add (qe_op or_mul od_mul (qe_op or_mul od_mul qe_int (qe_op or_add od_add (qe_var 1) qe_int)) (qe_op or_add od_add (qe_var 1) qe_int)) (qe_op or_mul od_mul qe_int (qe_callB call_len cd_len (by rfl) T.n_len (by decide +kernel) (qa_cons (qe_var 0) qa_nil)))))
  (qss_cons (qs_for [3] C.po (qi_seq (qe_sl (qe_var 0) qo_none (qo_some qe_int))) (tg_name nd) (qss_one (qs_set nd (qe_op op_modN od_mod (qe_callTy call_int1 cd_int (by rfl) T.n_int (by decide +kernel) (qa_cons (qe_op or_add od_add (qe_op or_mul od_mul (qe_var 2) qe_int) (qe_var 3)) qa_nil)) qe_int))))
  (qss_cons (qs_set nd (qe_if (qt_cmp op_lt od_lt (qe_var 1) (qe_callB call_len cd_len (by rfl) T.n_len (by decide +kernel) (qa_cons (qe_var 0) qa_nil)) (nomark _)) (qe_ixV 0 (qe_var 1)) qe_int))
  (qss_cons (qs_set nd (qe_if (QW.pt (qw_or (qt_cmp op_lt od_lt (qe_var 4) qe_int (nomark _)) (qw_or1 (qt_cmp op_ge od_ge (qe_var 4) (qe_op op_pow od_pow qe_int qe_int) (nomark _))))) (qe_callB call_abs cd_abs (by rfl) T.n_abs (by decide +kernel) (qa_cons (qe_var 4) qa_nil)) qe_int))
  (qss_one (qs_ret (qe_lst (qa_cons (qe_var 5) (qa_cons (qe_op op_modN od_mod (qe_callTy call_int1 cd_int (by rfl) T.n_int (by decide +kernel) (qa_cons (qe_op or_add od_add (qe_op or_add od_add (qe_op or_mul od_mul (qe_var 2) qe_int) (qe_op or_mul od_mul (qe_var 4) qe_int)) (qe_op or_mul od_mul qe_int (qe_op or_add od_add (qe_var 1) qe_int))) qa_nil)) qe_int) (qa_cons qe_int qa_nil)))))))))))
abbrev s_law_dip : Stmt := top 19
theorem sc_law_dip : FnScope [(Str.ofString "_law_jar_here"), (Str.ofString "_law_wide"), (Str.ofString "_law_digit"), (Str.ofString "_law_seed")] [(Str.ofString "_law_jar_here"), (Str.ofString "_law_wide")] (defScope s_law_dip) := ⟨rfl, rfl, rfl, by decide +kernel, rfl, by decide +kernel, by decide +kernel⟩
theorem d_law_dip {P : Program} {w : World} {K : PySem.W.Frag} {mg : Str → Option Value} {base : Heap} (r : Raw K mg (Str.ofString "_law_dip") s_law_dip) (T : Top w K mg) : Df P w K mg base 1 (Str.ofString "_law_dip") s_law_dip [(Str.ofString "_law_jar_here"), (Str.ofString "_law_wide")] (tf p_law_dip) :=
  have nd := sc_law_dip.nd
  df_q (b := b_law_dip) r sc_law_dip (fun _ _ _ _ _ _ us hl => match us, hl with | [_, _], _ => rfl) o_law_dip (fun f cdv A outer s H E W hG C =>
  (qss_cons (qs_setIx 0 (qe_op or_add od_add (qe_ixV 0 qe_int) qe_int) qe_int)
  (qss_cons (qs_if (qt_cmp op_gt od_gt (qe_ixV 0 qe_int) qe_int (nomark _)) (qss_cons (qs_set nd (qe_op op_modN od_mod (qe_callTy call_int1 cd_int (by rfl) T.n_int (by decide +kernel) (qa_cons (qe_ixV 0 qe_int) qa_nil)) (qe_var 1)))
  (qss_cons (qs_setIx 0 (qe_op or_div od_div (qe_callTy call_int1 cd_int (by rfl) T.n_int (by decide +kernel) (qa_cons (qe_ixV 0 qe_int) qa_nil)) (qe_var 1)) qe_int)
  (qss_one (qs_ret (qe_var 2))))) qss_nil)
  (qss_cons (qs_set nd (qe_callTy call_int1 cd_int (by rfl) T.n_int (by decide +kernel) (qa_cons (qe_ixV 0 qe_int) qa_nil)))
  (qss_cons (qs_setIx 0 (qe_op op_modN od_mod (qe_callTy call_int1 cd_int (by rfl) T.n_int (by decide +kernel) (qa_cons (qe_op or_add od_add (qe_op or_add od_add (qe_op or_mul od_mul (qe_var 3) qe_int) (qe_op or_mul od_mul (qe_ixV 0 qe_int) qe_int)) qe_int) qa_nil)) qe_int) qe_int)
  (qss_one (qs_ret (qe_op op_modN od_mod (qe_callTy call_int1 cd_int (by rfl) T.n_int (by decide +kernel) (qa_cons (qe_op or_div od_div (qe_ixV 0 qe_int) qe_int) qa_nil)) (qe_var 1)))))))))
abbrev s_law_pick : Stmt := top 20
theorem sc_law_pick : FnScope [(Str.ofString "_law_jar_here"), (Str.ofString "_law_menu"), (Str.ofString "_law_at")] [(Str.ofString "_law_jar_here"), (Str.ofString "_law_menu")] (defScope s_law_pick) := ⟨rfl, rfl, rfl, by decide +kernel, rfl, by decide +kernel, by decide +kernel⟩
theorem d_law_pick {P : Program} {w : World} {K : PySem.W.Frag} {mg : Str → Option Value} {base : Heap} (r : Raw K mg (Str.ofString "_law_pick") s_law_pick) (T : Top w K mg) (D_law_dip : Df P w K mg base 1 (Str.ofString "_law_dip") s_law_dip [(Str.ofString "_law_jar_here"), (Str.ofString "_law_wide")] (tf p_law_dip)) : Df P w K mg base 2 (Str.ofString "_law_pick") s_law_pick [(Str.ofString "_law_jar_here"), (Str.ofString "_law_menu")] (tf p_law_pick) :=
  have nd := sc_law_pick.nd
  df_q (b := b_law_pick) r sc_law_pick (fun _ _ _ _ _ _ us hl => match us, hl with | [_, _], _ => rfl) o_law_pick (fun f cdv A outer s H E W hG C =>
  (qss_cons (qs_set nd (qe_callD C hG D_law_dip (by decide) (qa_cons (qe_var 0) (qa_cons (qe_callB call_len cd_len (by rfl) T.n_len (by decide +kernel) (qa_cons (qe_var 1) qa_nil)) qa_nil))))
  (qss_one (qs_ret (qe_ixV 1 (qe_var 2))))))
abbrev s_law_some_list : Stmt := top 21
theorem sc_law_some_list : FnScope [(Str.ofString "_law_jar_here"), (Str.ofString "_law_most_here"), (Str.ofString "_law_wide"), (Str.ofString "_law_begin"), (Str.ofString "_law_found"), (Str.ofString "_law_turn")] [(Str.ofString "_law_jar_here"), (Str.ofString "_law_most_here"), (Str.ofString "_law_wide")] (defScope s_law_some_list) := ⟨rfl, rfl, rfl, by decide +kernel, rfl, by decide +kernel, by decide +kernel⟩
theorem d_law_some_list {P : Program} {w : World} {K : PySem.W.Frag} {mg : Str → Option Value} {base : Heap} (r : Raw K mg (Str.ofString "_law_some_list") s_law_some_list) (T : Top w K mg) (D_law_dip : Df P w K mg base 1 (Str.ofString "_law_dip") s_law_dip [(Str.ofString "_law_jar_here"), (Str.ofString "_law_wide")] (tf p_law_dip)) (D_law_pick : Df P w K mg base 2 (Str.ofString "_law_pick") s_law_pick [(Str.ofString "_law_jar_here"), (Str.ofString "_law_menu")] (tf p_law_pick)) : Df P w K mg base 3 (Str.ofString "_law_some_list") s_law_some_list [(Str.ofString "_law_jar_here"), (Str.ofString "_law_most_here"), (Str.ofString "_law_wide")] (tf p_law_some_list) :=
  have nd := sc_law_some_list.nd
  df_q (b := b_law_some_list) r sc_law_some_list (fun _ _ _ _ _ _ us hl => match us, hl with | [_, _, _], _ => rfl) o_law_some_list (fun f cdv A outer s H E W hG C =>
  (qss_cons (qs_set nd (qe_callD C hG D_law_pick (by decide) (qa_cons (qe_var 0) (qa_cons (qe_lst (qa_cons qe_int (qa_cons qe_int (qa_cons qe_int (qa_cons (qe_op op_sub od_sub (qe_callD C hG D_law_dip (by decide) (qa_cons (qe_var 0) (qa_cons qe_int qa_nil))) qe_int) (qa_cons (qe_op op_sub od_sub (qe_op op_pow od_pow qe_int qe_int) (qe_callD C hG D_law_dip (by decide) (qa_cons (qe_var 0) (qa_cons (qe_op op_pow od_pow qe_int qe_int) qa_nil)))) qa_nil)))))) qa_nil))))
  (qss_cons (qs_setLc (own := [((Str.ofString "_law_turn"), 5)]) nd (qi_range1 (qa_cons (qe_op or_add od_add qe_int (qe_callD C hG D_law_dip (by decide) (qa_cons (qe_var 0) (qa_cons (qe_var 1) qa_nil)))) qa_nil) (by rfl) T.n_range) (blkOk_by (by kernel_rfl)) (fun _ _ _ _ _ => (tg_name nd)) (tin_name (by decide)) (fun _ _ _ _ _ => qts_nil) (fun _ _ _ _ _ => (qe_op or_add od_add (qe_var 3) (qe_callD (C.blk _ _ _ _ _ PassesOwn.never) hG D_law_dip (by decide) (qa_cons (qe_var 0) (qa_cons (qe_var 2) qa_nil))))) (sw_true rfl rfl rfl (by decide +kernel)))
  (qss_one (qs_ret (qe_callTy call_tuple_of cd_tuple (by rfl) T.n_tuple (by decide +kernel) (qa_cons (qe_sortedSet (by rfl) (by rfl) T.n_sorted (by decide +kernel) (by rfl) T.n_set (by decide +kernel) (qa_cons (qe_var 4) qa_nil)) qa_nil)))))))
abbrev s_law_steps_of : Stmt := top 22
theorem sc_law_steps_of : FnScope [(Str.ofString "_law_jar_here"), (Str.ofString "_law_lists_here"), (Str.ofString "_law_most_here"), (Str.ofString "_law_found"), (Str.ofString "_law_before"), (Str.ofString "_law_turn"), (Str.ofString "_law_at")] [(Str.ofString "_law_jar_here"), (Str.ofString "_law_lists_here"), (Str.ofString "_law_most_here")] (defScope s_law_steps_of) := ⟨rfl, rfl, rfl, by decide +kernel, rfl, by decide +kernel, by decide +kernel⟩
theorem d_law_steps_of {P : Program} {w : World} {K : PySem.W.Frag} {mg : Str → Option Value} {base : Heap} (r : Raw K mg (Str.ofString "_law_steps_of") s_law_steps_of) (T : Top w K mg) (D_law_dip : Df P w K mg base 1 (Str.ofString "_law_dip") s_law_dip [(Str.ofString "_law_jar_here"), (Str.ofString "_law_wide")] (tf p_law_dip)) (D_law_pick : Df P w K mg base 2 (Str.ofString "_law_pick") s_law_pick [(Str.ofString "_law_jar_here"), (Str.ofString "_law_menu")] (tf p_law_pick)) : Df P w K mg base 3 (Str.ofString "_law_steps_of") s_law_steps_of [(Str.ofString "_law_jar_here"), (Str.ofString "_law_lists_here"), (Str.ofString "_law_most_here")] (tf p_law_steps_of) :=
  have nd := sc_law_steps_of.nd
  df_q (b := b_law_steps_of) r sc_law_steps_of (fun _ _ _ _ _ _ us hl => match us, hl with | [_, _, _], _ => rfl) o_law_steps_of (fun f cdv A outer s H E W hG C =>
  (qss_cons (qs_par nd (qe_lst qa_nil) (qe_neg qe_int))
  (qss_cons (qs_for [5, 6] C.po (qi_range1 (qa_cons (qe_callD C hG D_law_dip (by decide) (qa_cons (qe_var 0) (qa_cons (qe_op or_add od_add (qe_var 2) qe_int) qa_nil))) qa_nil) (by rfl) T.n_range) (tg_name nd) (qss_cons (qs_set nd (qe_callD C hG D_law_dip (by decide) (qa_cons (qe_var 0) (qa_cons (qe_var 1) qa_nil))))
  (qss_one (qs_if (qt_cmp (or_neA C.u64) od_ne (qe_var 6) (qe_var 4) (nomark _)) (qss_cons (qs_app 3 (qe_tup (qa_cons (qe_op or_add od_add qe_int (qe_callD C hG D_law_dip (by decide) (qa_cons (qe_var 0) (qa_cons (qe_callD C hG D_law_pick (by decide) (qa_cons (qe_var 0) (qa_cons (qe_lst (qa_cons qe_int (qa_cons qe_int (qa_cons qe_int qa_nil)))) qa_nil))) qa_nil)))) (qa_cons (qe_var 6) qa_nil))))
  (qss_one (qs_set nd (qe_var 6)))) qss_nil))))
  (qss_one (qs_ret (qe_callTy call_tuple_of cd_tuple (by rfl) T.n_tuple (by decide +kernel) (qa_cons (qe_var 3) qa_nil)))))))
abbrev s_law_built : Stmt := top 23
theorem sc_law_built : FnScope [(Str.ofString "_law_steps_here"), (Str.ofString "_law_lists_here"), (Str.ofString "_law_found"), (Str.ofString "_law_rung"), (Str.ofString "_law_wide"), (Str.ofString "_law_at"), (Str.ofString "_law_more"), (Str.ofString "_law_turn"), (Str.ofString "_law_k"), (Str.ofString "_law_number")] [(Str.ofString "_law_steps_here"), (Str.ofString "_law_lists_here")] (defScope s_law_built) := ⟨rfl, rfl, rfl, by decide +kernel, rfl, by decide +kernel, by decide +kernel⟩
theorem d_law_built {P : Program} {w : World} {K : PySem.W.Frag} {mg : Str → Option Value} {base : Heap} (r : Raw K mg (Str.ofString "_law_built") s_law_built) (T : Top w K mg) : Df P w K mg base 1 (Str.ofString "_law_built") s_law_built [(Str.ofString "_law_steps_here"), (Str.ofString "_law_lists_here")] (tf f_law_built) :=
  have nd := sc_law_built.nd
  df_q (b := b_law_built) r sc_law_built (fun _ _ _ _ _ _ us hl => match us, hl with | [_, _], _ => rfl) (fun _ _ => M.le_refl _) (fun f cdv A outer s H E W hG C =>
  (qss_cons (qs_parT nd (qe_lc (own := [((Str.ofString "_law_k"), 8)]) nd (qi_range1 (qa_cons (qe_var 1) qa_nil) (by rfl) T.n_range) (blkOk_by (by kernel_rfl)) (fun _ _ _ _ _ => (tg_name nd)) (tin_name (by decide)) (fun _ _ _ _ _ => qts_nil) (fun _ _ _ _ _ => (qe_tup (qa_cons qe_int qa_nil)))) qe_int (pgs_nm nd (pgs_nm nd pgs_nm0)))
  (qss_cons (qs_for [4, 5, 6, 7] C.po (qi_seq (qe_var 0)) (tg_tup (pgs_nm nd (pgs_nm nd pgs_nm0))) (qss_cons (qs_set nd (qe_lst qa_nil))
  (qss_cons (qs_for [7] C.po (qi_range1 (qa_cons (qe_var 4) qa_nil) (by rfl) T.n_range) (tg_name nd) (qss_one (qs_set nd (qe_op or_add od_add (qe_var 6) (qe_lc (own := [((Str.ofString "_law_number"), 9)]) nd (qi_seq (qe_ixV 2 (qe_var 5))) (blkOk_by (by kernel_rfl)) (fun _ _ _ _ _ => (tg_name nd)) (tin_name (by decide)) (fun _ _ _ _ _ => qts_nil) (fun _ _ _ _ _ => (qe_op or_add od_add (qe_op or_mul od_mul (qe_var 7) (qe_var 3)) (qe_var 9))))))))
  (qss_cons (qs_setIx 2 (qe_callTy call_tuple_of cd_tuple (by rfl) T.n_tuple (by decide +kernel) (qa_cons (qe_callB (cr_sortedX (by rfl)) cd_sortedX (by rfl) T.n_sorted (by decide +kernel) (qa_cons (qe_var 6) qa_nil)) qa_nil)) (qe_var 5))
  (qss_one (qs_set nd (qe_op or_mul od_mul (qe_var 3) (qe_var 4))))))))
  (qss_one (qs_ret (qe_callTy call_tuple_of cd_tuple (by rfl) T.n_tuple (by decide +kernel) (qa_cons (qe_var 2) qa_nil)))))))
abbrev s_law_shifted : Stmt := top 24
theorem sc_law_shifted : FnScope [(Str.ofString "_law_jar_here"), (Str.ofString "_law_lists_here"), (Str.ofString "_law_found"), (Str.ofString "_law_numbers_here"), (Str.ofString "_law_by"), (Str.ofString "_law_number")] [(Str.ofString "_law_jar_here"), (Str.ofString "_law_lists_here")] (defScope s_law_shifted) := ⟨rfl, rfl, rfl, by decide +kernel, rfl, by decide +kernel, by decide +kernel⟩
theorem d_law_shifted {P : Program} {w : World} {K : PySem.W.Frag} {mg : Str → Option Value} {base : Heap} (r : Raw K mg (Str.ofString "_law_shifted") s_law_shifted) (T : Top w K mg) (D_law_dip : Df P w K mg base 1 (Str.ofString "_law_dip") s_law_dip [(Str.ofString "_law_jar_here"), (Str.ofString "_law_wide")] (tf p_law_dip)) (D_law_pick : Df P w K mg base 2 (Str.ofString "_law_pick") s_law_pick [(Str.ofString "_law_jar_here"), (Str.ofString "_law_menu")] (tf p_law_pick)) : Df P w K mg base 3 (Str.ofString "_law_shifted") s_law_shifted [(Str.ofString "_law_jar_here"), (Str.ofString "_law_lists_here")] (tf p_law_shifted) :=
  have nd := sc_law_shifted.nd
  df_q (b := b_law_shifted) r sc_law_shifted (fun _ _ _ _ _ _ us hl => match us, hl with | [_, _], _ => rfl) o_law_shifted (fun f cdv A outer s H E W hG C =>
  (qss_cons (qs_set nd (qe_lst qa_nil))
  (qss_cons (qs_for [3, 4] C.po (qi_seq (qe_var 1)) (tg_name nd) (qss_cons (qs_set nd (qe_callD C hG D_law_pick (by decide) (qa_cons (qe_var 0) (qa_cons (qe_lst (qa_cons qe_int (qa_cons (qe_op op_sub od_sub (qe_callD C hG D_law_dip (by decide) (qa_cons (qe_var 0) (qa_cons qe_int qa_nil))) qe_int) (qa_cons (qe_op or_add od_add (qe_op op_pow od_pow qe_int qe_int) (qe_callD C hG D_law_dip (by decide) (qa_cons (qe_var 0) (qa_cons qe_int qa_nil)))) qa_nil)))) qa_nil))))
  (qss_one (qs_app 2 (qe_callTy call_tuple_of cd_tuple (by rfl) T.n_tuple (by decide +kernel) (qa_cons (qe_lc (own := [((Str.ofString "_law_number"), 5)]) nd (qi_seq (qe_var 3)) (blkOk_by (by kernel_rfl)) (fun _ _ _ _ _ => (tg_name nd)) (tin_name (by decide)) (fun _ _ _ _ _ => qts_nil) (fun _ _ _ _ _ => (qe_op or_add od_add (qe_var 5) (qe_var 4)))) qa_nil))))))
  (qss_one (qs_ret (qe_callTy call_tuple_of cd_tuple (by rfl) T.n_tuple (by decide +kernel) (qa_cons (qe_var 2) qa_nil)))))))
abbrev s_law_any_lot : Stmt := top 25
theorem sc_law_any_lot : FnScope [(Str.ofString "_law_jar_here"), (Str.ofString "_law_many"), (Str.ofString "_law_found"), (Str.ofString "_law_at"), (Str.ofString "_law_spoiled"), (Str.ofString "_law_k")] [(Str.ofString "_law_jar_here")] (defScope s_law_any_lot) := ⟨rfl, rfl, rfl, by decide +kernel, rfl, by decide +kernel, by decide +kernel⟩
theorem d_law_any_lot {P : Program} {w : World} {K : PySem.W.Frag} {mg : Str → Option Value} {base : Heap} (r : Raw K mg (Str.ofString "_law_any_lot") s_law_any_lot) (T : Top w K mg) (D_law_built : Df P w K mg base 1 (Str.ofString "_law_built") s_law_built [(Str.ofString "_law_steps_here"), (Str.ofString "_law_lists_here")] (tf f_law_built)) (D_law_dip : Df P w K mg base 1 (Str.ofString "_law_dip") s_law_dip [(Str.ofString "_law_jar_here"), (Str.ofString "_law_wide")] (tf p_law_dip)) (D_law_shifted : Df P w K mg base 3 (Str.ofString "_law_shifted") s_law_shifted [(Str.ofString "_law_jar_here"), (Str.ofString "_law_lists_here")] (tf p_law_shifted)) (D_law_some_list : Df P w K mg base 3 (Str.ofString "_law_some_list") s_law_some_list [(Str.ofString "_law_jar_here"), (Str.ofString "_law_most_here"), (Str.ofString "_law_wide")] (tf p_law_some_list)) (D_law_steps_of : Df P w K mg base 3 (Str.ofString "_law_steps_of") s_law_steps_of [(Str.ofString "_law_jar_here"), (Str.ofString "_law_lists_here"), (Str.ofString "_law_most_here")] (tf p_law_steps_of)) : Df P w K mg base 4 (Str.ofString "_law_any_lot") s_law_any_lot [(Str.ofString "_law_jar_here")] (tf p_law_any_lot) :=
  have nd := sc_law_any_lot.nd
  df_q (b := b_law_any_lot) r sc_law_any_lot (fun _ _ _ _ _ _ us hl => match us, hl with | [_], _ => rfl) o_law_any_lot (fun f cdv A outer s H E W hG C =>
  (qss_cons (qs_set nd (qe_op or_add od_add qe_int (qe_callD C hG D_law_dip (by decide) (qa_cons (qe_var 0) (qa_cons qe_int qa_nil)))))
  (qss_cons (qs_if (qt_cmp (or_eqA C.u64) od_eq (qe_callD C hG D_law_dip (by decide) (qa_cons (qe_var 0) (qa_cons qe_int qa_nil))) qe_int (nomark _)) (qss_one (qs_ret (qe_callTy call_tuple_of cd_tuple (by rfl) T.n_tuple (by decide +kernel) (qa_cons (qe_lc (own := [((Str.ofString "_law_k"), 5)]) nd (qi_range1 (qa_cons (qe_var 1) qa_nil) (by rfl) T.n_range) (blkOk_by (by kernel_rfl)) (fun _ _ _ _ _ => (tg_name nd)) (tin_name (by decide)) (fun _ _ _ _ _ => qts_nil) (fun _ _ _ _ _ => (qe_callD (C.blk _ _ _ _ _ PassesOwn.never) hG D_law_some_list (by decide) (qa_cons (qe_var 0) (qa_cons qe_int (qa_cons qe_int qa_nil)))))) qa_nil)))) qss_nil)
  (qss_cons (qs_set nd (qe_callD C hG D_law_shifted (by decide) (qa_cons (qe_var 0) (qa_cons (qe_callD C hG D_law_built (by decide) (qa_cons (qe_callD C hG D_law_steps_of (by decide) (qa_cons (qe_var 0) (qa_cons (qe_var 1) (qa_cons qe_int qa_nil)))) (qa_cons (qe_var 1) qa_nil))) qa_nil))))
  (qss_cons (qs_set nd (qe_callD C hG D_law_dip (by decide) (qa_cons (qe_var 0) (qa_cons (qe_var 1) qa_nil))))
  (qss_cons (qs_if (qt_cmp (or_eqA C.u64) od_eq (qe_callD C hG D_law_dip (by decide) (qa_cons (qe_var 0) (qa_cons qe_int qa_nil))) qe_int (nomark _)) (qss_cons (qs_set nd (qe_sortedSet (by rfl) (by rfl) T.n_sorted (by decide +kernel) (by rfl) T.n_set (by decide +kernel) (qa_cons (qe_op or_add od_add (qe_callTy call_list_of cd_list (by rfl) T.n_list (by decide +kernel) (qa_cons (qe_sl (qe_ixV 2 (qe_var 3)) (qo_some qe_int) qo_none) qa_nil)) (qe_lst (qa_cons (qe_op or_add od_add (qe_ix (qe_ixV 2 (qe_var 3)) qe_int) (qe_callD C hG D_law_dip (by decide) (qa_cons (qe_var 0) (qa_cons qe_int qa_nil)))) qa_nil))) qa_nil)))
  (qss_one (qs_set nd (qe_op or_add od_add (qe_op or_add od_add (qe_sl (qe_var 2) qo_none (qo_some (qe_var 3))) (qe_tup (qa_cons (qe_callTy call_tuple_of cd_tuple (by rfl) T.n_tuple (by decide +kernel) (qa_cons (qe_var 4) qa_nil)) qa_nil))) (qe_sl (qe_var 2) (qo_some (qe_op or_add od_add (qe_var 3) qe_int)) qo_none))))) qss_nil)
  (qss_one (qs_ret (qe_var 2)))))))))
abbrev s_law_odd : Stmt := top 26
theorem sc_law_odd : FnScope [(Str.ofString "_law_jar_here"), (Str.ofString "_law_menu")] [(Str.ofString "_law_jar_here")] (defScope s_law_odd) := ⟨rfl, rfl, rfl, by decide +kernel, rfl, by decide +kernel, by decide +kernel⟩
theorem d_law_odd {P : Program} {w : World} {K : PySem.W.Frag} {mg : Str → Option Value} {base : Heap} (r : Raw K mg (Str.ofString "_law_odd") s_law_odd) (T : Top w K mg) (D_law_pick : Df P w K mg base 2 (Str.ofString "_law_pick") s_law_pick [(Str.ofString "_law_jar_here"), (Str.ofString "_law_menu")] (tf p_law_pick)) : Df P w K mg base 3 (Str.ofString "_law_odd") s_law_odd [(Str.ofString "_law_jar_here")] (tf p_law_odd) :=
  have nd := sc_law_odd.nd
  df_q (b := b_law_odd) r sc_law_odd (fun _ _ _ _ _ _ us hl => match us, hl with | [_], _ => rfl) o_law_odd (fun f cdv A outer s H E W hG C =>
  (qss_cons (qs_set nd (qe_lst (qa_cons qe_non (qa_cons qe_bl (qa_cons qe_bl (qa_cons qe_int (qa_cons qe_int (qa_cons (qe_neg qe_int) (qa_cons qe_int (qa_cons (qe_op op_pow od_pow qe_int qe_int) (qa_cons qe_str (qa_cons qe_str qa_nil))))))))))))
  (qss_cons (qs_set nd (qe_op or_add od_add (qe_var 1) (qe_lst (qa_cons qe_str (qa_cons qe_str (qa_cons (qe_tup qa_nil) (qa_cons (qe_tup (qa_cons qe_int qa_nil)) (qa_cons (qe_tup (qa_cons qe_int (qa_cons qe_int qa_nil))) (qa_cons (qe_tup (qa_cons qe_int (qa_cons qe_int qa_nil))) (qa_cons (qe_lst (qa_cons qe_int (qa_cons qe_int qa_nil))) (qa_cons (qe_lst qa_nil) (qa_cons qe_dic0 qa_nil))))))))))))
  (qss_one (qs_ret (qe_callD C hG D_law_pick (by decide) (qa_cons (qe_var 0) (qa_cons (qe_op or_add od_add (qe_var 1) (qe_lst (qa_cons (qe_tup (qa_cons qe_bl (qa_cons qe_int qa_nil))) (qa_cons (qe_tup (qa_cons (qe_tup (qa_cons qe_int (qa_cons qe_int qa_nil))) qa_nil)) (qa_cons (qe_tup (qa_cons (qe_tup (qa_cons (qe_tup (qa_cons qe_int (qa_cons qe_int qa_nil))) qa_nil)) qa_nil)) (qa_cons (qe_tup (qa_cons qe_non (qa_cons qe_int qa_nil))) (qa_cons (qe_dicS pe_str pe_int) (qa_cons (qe_tup (qa_cons (qe_tup (qa_cons qe_int (qa_cons qe_int qa_nil))) qa_nil)) (qa_cons (qe_lst (qa_cons (qe_lst qa_nil) qa_nil)) (qa_cons (qe_tup (qa_cons (qe_tup qa_nil) qa_nil)) (qa_cons qe_str qa_nil))))))))))) qa_nil))))))))
abbrev s_law_bases : Stmt := top 27
theorem sc_law_bases : FnScope [(Str.ofString "_law_e"), (Str.ofString "_law_found")] [(Str.ofString "_law_e")] (defScope s_law_bases) := ⟨rfl, rfl, rfl, by decide +kernel, rfl, by decide +kernel, by decide +kernel⟩
theorem d_law_bases {P : Program} {w : World} {K : PySem.W.Frag} {mg : Str → Option Value} {base : Heap} (r : Raw K mg (Str.ofString "_law_bases") s_law_bases) (T : Top w K mg) : DfH P w K mg base 1 (Str.ofString "_law_bases") s_law_bases [(Str.ofString "_law_e")] (tf f_law_bases) :=
  have nd := sc_law_bases.nd
  df_qH (b := b_law_bases) r sc_law_bases (fun _ _ _ _ _ _ us hl => match us, hl with | [_], _ => rfl) (fun _ _ => M.le_refl _) (fun f cdv A outer s H W hG C =>
  (qss_cons (qs_set nd (qe_lst (qa_cons (qe_and (qe_xis hG T.xis T.n_isinstance T.nm_WrongValue (qe_var 0)) (qe_one (qe_xis hG T.xis T.n_isinstance T.nm_ValueError (qe_var 0)))) qa_nil)))
  (qss_cons (qs_app 1 (qe_and (qe_xis hG T.xis T.n_isinstance T.nm_WrongName (qe_var 0)) (qe_one (qe_xis hG T.xis T.n_isinstance T.nm_LookupError (qe_var 0)))))
  (qss_one (qs_ret (qe_op or_add od_add (qe_var 1) (qe_lst (qa_cons (qe_and (qe_xis hG T.xis T.n_isinstance T.nm_NotPossible (qe_var 0)) (qe_one (qe_xis hG T.xis T.n_isinstance T.nm_ArithmeticError (qe_var 0)))) qa_nil))))))))
abbrev s_law_shown : Stmt := top 32
theorem sc_law_shown : FnScope [(Str.ofString "_law_e")] [(Str.ofString "_law_e")] (defScope s_law_shown) := ⟨rfl, rfl, rfl, by decide +kernel, rfl, by decide +kernel, by decide +kernel⟩
theorem d_law_shown {P : Program} {w : World} {K : PySem.W.Frag} {mg : Str → Option Value} {base : Heap} (r : Raw K mg (Str.ofString "_law_shown") s_law_shown) (T : Top w K mg) (D_law_bases : DfH P w K mg base 1 (Str.ofString "_law_bases") s_law_bases [(Str.ofString "_law_e")] (tf f_law_bases)) : DfH P w K mg base 2 (Str.ofString "_law_shown") s_law_shown [(Str.ofString "_law_e")] (tf f_law_shown) :=
  have nd := sc_law_shown.nd
  df_qH (b := b_law_shown) r sc_law_shown (fun _ _ _ _ _ _ us hl => match us, hl with | [_], _ => rfl) (fun _ _ => M.le_refl _) (fun f cdv A outer s H W hG C =>
  (qss_one (qs_ret (qe_lst (qa_cons (qe_if (QW.pt (qw_and (qt_val (qe_xis hG T.xis T.n_isinstance T.nm_InvalidText (qe_var 0))) (qw_and1 (qt_cmp (or_eqA C.u64) od_eq (qe_callH C hG D_law_bases (by decide) (qa_cons (qe_var 0) qa_nil)) (qe_lst (qa_cons qe_bl (qa_cons qe_bl (qa_cons qe_bl qa_nil)))) (nomark _))))) qe_str qe_str) (qa_cons (qe_callB (cr_reprX C.gd C.u64) cd_reprX (by rfl) T.n_repr (by decide +kernel) (qa_cons (qe_xf hG T.xf (qe_var 0)) qa_nil)) qa_nil))))))
abbrev s_law_caught : Stmt := top 28
theorem sc_law_caught : FnScope [(Str.ofString "_law_act"), (Str.ofString "_law_told"), (Str.ofString "_law_e")] [(Str.ofString "_law_act")] (defScope s_law_caught) := ⟨rfl, rfl, rfl, by decide +kernel, rfl, by decide +kernel, by decide +kernel⟩
theorem d_law_caught {P : Program} {w : World} {K : PySem.W.Frag} {mg : Str → Option Value} {base : Heap} (r : Raw K mg (Str.ofString "_law_caught") s_law_caught) (T : Top w K mg) (D_law_shown : DfH P w K mg base 2 (Str.ofString "_law_shown") s_law_shown [(Str.ofString "_law_e")] (tf f_law_shown)) : DfL P w K mg base 9 (Str.ofString "_law_caught") f_law_caught :=
  have nd := sc_law_caught.nd
  df_qL (b := b_law_caught) r sc_law_caught (fun _ _ _ _ _ _ us hl => match us, hl with | [_], _ => rfl) (fun fa m f cdv A outer s H E W hG C hL =>
  (qss_cons (qs_try C hG T.xt T.xo (fun T' pn xe C => (qss_one (qs_set nd (qe_act 0 C (Nat.le_refl _) hL)))) (.cons (test_3 (nv_own T.nv_WrongValue) (nv_own T.nv_WrongName) (nv_own T.nv_NotPossible)) ⟨rfl, rfl⟩ (fun a pn C => (qss_one (qs_ret (qe_callH C hG D_law_shown (by decide) (qa_cons (qe_var 2) qa_nil))))) .nil) nd)
  (qss_one (qs_ret (qe_lst (qa_cons qe_str (qa_cons (qe_var 1) qa_nil)))))))
abbrev s_law_is_list : Stmt := top 29
theorem sc_law_is_list : FnScope [(Str.ofString "_law_value"), (Str.ofString "_law_number")] [(Str.ofString "_law_value")] (defScope s_law_is_list) := ⟨rfl, rfl, rfl, by decide +kernel, rfl, by decide +kernel, by decide +kernel⟩
theorem d_law_is_list {P : Program} {w : World} {K : PySem.W.Frag} {mg : Str → Option Value} {base : Heap} (r : Raw K mg (Str.ofString "_law_is_list") s_law_is_list) (T : Top w K mg) : Df P w K mg base 1 (Str.ofString "_law_is_list") s_law_is_list [(Str.ofString "_law_value")] (tf f_law_is_list) :=
  have nd := sc_law_is_list.nd
  df_q (b := b_law_is_list) r sc_law_is_list (fun _ _ _ _ _ _ us hl => match us, hl with | [_], _ => rfl) (fun _ _ => M.le_refl _) (fun f cdv A outer s H E W hG C =>
  (qss_cons (qs_if (QW.pt (qw_or (qt_not (qt_val (qe_callB call_isi cd_isi (by rfl) T.n_isinstance (by decide +kernel) (qa_cons (qe_var 0) (qa_cons (qe_bty (by rfl) T.n_tuple (by decide +kernel)) qa_nil))))) (qw_or1 (qt_not (qt_chain op_lt op_lt od_lt od_lt qe_int (qe_callB call_len cd_len (by rfl) T.n_len (by decide +kernel) (qa_cons (qe_var 0) qa_nil)) qe_int))))) (qss_one (qs_ret qe_bl)) qss_nil)
  (qss_cons (qs_if (qt_cmp (or_neA C.u64) od_ne (qe_lc (own := [((Str.ofString "_law_number"), 1)]) nd (qi_seq (qe_var 0)) (blkOk_by (by kernel_rfl)) (fun _ _ _ _ _ => (tg_name nd)) (tin_name (by decide)) (fun _ _ _ _ _ => (qts_one (QW.pt (qw_or (qt_not (qt_val (qe_callB call_isi cd_isi (by rfl) T.n_isinstance (by decide +kernel) (qa_cons (qe_var 1) (qa_cons (qe_bty (by rfl) T.n_int (by decide +kernel)) qa_nil))))) (qw_or1 (qt_val (qe_callB call_isi cd_isi (by rfl) T.n_isinstance (by decide +kernel) (qa_cons (qe_var 1) (qa_cons (qe_bty (by rfl) T.n_bool (by decide +kernel)) qa_nil))))))))) (fun _ _ _ _ _ => (qe_var 1))) (qe_lst qa_nil) (nomark _)) (qss_one (qs_ret qe_bl)) qss_nil)
  (qss_one (qs_ret (qe_cmp (or_eqA C.u64) od_eq (qe_callTy call_list_of cd_list (by rfl) T.n_list (by decide +kernel) (qa_cons (qe_var 0) qa_nil)) (qe_sortedSetT (by rfl) (by rfl) T.n_sorted (by decide +kernel) (by rfl) T.n_set (by decide +kernel) (qa_cons (qe_var 0) qa_nil)) (nomark _)))))))
abbrev s_law_lot_slip : Stmt := top 30
theorem sc_law_lot_slip : FnScope [(Str.ofString "_law_value"), (Str.ofString "_law_k")] [(Str.ofString "_law_value")] (defScope s_law_lot_slip) := ⟨rfl, rfl, rfl, by decide +kernel, rfl, by decide +kernel, by decide +kernel⟩
theorem d_law_lot_slip {P : Program} {w : World} {K : PySem.W.Frag} {mg : Str → Option Value} {base : Heap} (r : Raw K mg (Str.ofString "_law_lot_slip") s_law_lot_slip) (T : Top w K mg) (D_law_is_list : Df P w K mg base 1 (Str.ofString "_law_is_list") s_law_is_list [(Str.ofString "_law_value")] (tf f_law_is_list)) : Df P w K mg base 2 (Str.ofString "_law_lot_slip") s_law_lot_slip [(Str.ofString "_law_value")] (tf f_law_lot_slip) :=
  have nd := sc_law_lot_slip.nd
  df_q (b := b_law_lot_slip) r sc_law_lot_slip (fun _ _ _ _ _ _ us hl => match us, hl with | [_], _ => rfl) (fun _ _ => M.le_refl _) (fun f cdv A outer s H E W hG C =>
  (qss_cons (qs_if (QW.pt (qw_or (qt_not (qt_val (qe_callB call_isi cd_isi (by rfl) T.n_isinstance (by decide +kernel) (qa_cons (qe_var 0) (qa_cons (qe_bty (by rfl) T.n_tuple (by decide +kernel)) qa_nil))))) (qw_or1 (qt_cmp (or_eqA C.u64) od_eq (qe_var 0) (qe_tup qa_nil) (nomark _))))) (qss_one (qs_ret (qe_lst (qa_cons qe_str (qa_cons qe_str qa_nil))))) qss_nil)
  (qss_cons (qs_for [1] C.po (qi_range1 (qa_cons (qe_callB call_len cd_len (by rfl) T.n_len (by decide +kernel) (qa_cons (qe_var 0) qa_nil)) qa_nil) (by rfl) T.n_range) (tg_name nd) (qss_one (qs_if (QW.pt (qw_or (qt_cmp (or_eqA C.u64) od_eq (qe_var 1) qe_int (nomark _)) (qw_or1 (qt_not (qt_val (qe_callD C hG D_law_is_list (by decide) (qa_cons (qe_ixV 0 (qe_var 1)) qa_nil))))))) (qss_one (qs_ret (qe_lst (qa_cons qe_str (qa_cons (qe_callB (cr_reprX C.gd C.u64) cd_reprX (by rfl) T.n_repr (by decide +kernel) (qa_cons (qe_var 1) qa_nil)) qa_nil))))) qss_nil)))
  (qss_one (qs_ret (qe_lst qa_nil))))))
abbrev s_law_page : Stmt := top 31
theorem sc_law_page : FnScope [(Str.ofString "_law_lists_here"), (Str.ofString "_law_numbers_here"), (Str.ofString "_law_number")] [(Str.ofString "_law_lists_here")] (defScope s_law_page) := ⟨rfl, rfl, rfl, by decide +kernel, rfl, by decide +kernel, by decide +kernel⟩
theorem d_law_page {P : Program} {w : World} {K : PySem.W.Frag} {mg : Str → Option Value} {base : Heap} (r : Raw K mg (Str.ofString "_law_page") s_law_page) (T : Top w K mg) : Df P w K mg base 1 (Str.ofString "_law_page") s_law_page [(Str.ofString "_law_lists_here")] (tf f_law_page) :=
  have nd := sc_law_page.nd
  df_q (b := b_law_page) r sc_law_page (fun _ _ _ _ _ _ us hl => match us, hl with | [_], _ => rfl) (fun _ _ => M.le_refl _) (fun f cdv A outer s H E W hG C =>
  (qss_one (qs_ret (qe_join qe_str (qe_lc (own := [((Str.ofString "_law_numbers_here"), 1)]) nd (qi_seq (qe_var 0)) (blkOk_by (by kernel_rfl)) (fun _ _ _ _ _ => (tg_name nd)) (tin_name (by decide)) (fun _ _ _ _ _ => qts_nil) (fun _ _ _ _ _ => (qe_join qe_str (qe_lc (own := [((Str.ofString "_law_number"), 2)]) nd (qi_seq (qe_var 1)) (blkOk_by (by kernel_rfl)) (fun _ _ _ _ _ => (tg_name nd)) (tin_name (by decide)) (fun _ _ _ _ _ => qts_nil) (fun _ _ _ _ _ => (qe_callTy call_str_int cd_strI (by rfl) T.n_str (by decide +kernel) (qa_cons (qe_var 2) qa_nil)))))))))))
abbrev s_law_number_in : Stmt := top 33
theorem sc_law_number_in : FnScope [(Str.ofString "_law_word"), (Str.ofString "_law_digits"), (Str.ofString "_law_glyph")] [(Str.ofString "_law_word")] (defScope s_law_number_in) := ⟨rfl, rfl, rfl, by decide +kernel, rfl, by decide +kernel, by decide +kernel⟩
theorem d_law_number_in {P : Program} {w : World} {K : PySem.W.Frag} {mg : Str → Option Value} {base : Heap} (r : Raw K mg (Str.ofString "_law_number_in") s_law_number_in) (T : Top w K mg) : Df P w K mg base 1 (Str.ofString "_law_number_in") s_law_number_in [(Str.ofString "_law_word")] (tf f_law_number_in) :=
  have nd := sc_law_number_in.nd
  df_q (b := b_law_number_in) r sc_law_number_in (fun _ _ _ _ _ _ us hl => match us, hl with | [_], _ => rfl) (fun _ _ => M.le_refl _) (fun f cdv A outer s H E W hG C =>
  (qss_cons (qs_set nd (qe_if (qt_cmp (or_eqA C.u64) od_eq (qe_sl (qe_var 0) qo_none (qo_some qe_int)) qe_str (nomark _)) (qe_sl (qe_var 0) (qo_some qe_int) qo_none) (qe_var 0)))
  (qss_cons (qs_if (QW.pt (qw_or (qt_cmp (or_eqA C.u64) od_eq (qe_var 1) qe_str (nomark _)) (qw_or1 (qt_cmp (or_neA C.u64) od_ne (qe_lc (own := [((Str.ofString "_law_glyph"), 2)]) nd (qi_chars (qe_var 1)) (blkOk_by (by kernel_rfl)) (fun _ _ _ _ _ => (tg_name nd)) (tin_name (by decide)) (fun _ _ _ _ _ => (qts_one (qt_not (qt_chain op_le_str op_le_str od_leS od_leS qe_str (qe_var 2) qe_str)))) (fun _ _ _ _ _ => (qe_var 2))) (qe_lst qa_nil) (nomark _))))) (qss_one (qs_ret qe_non)) qss_nil)
  (qss_one (qs_ret (qe_if (qt_cmp (or_eqA C.u64) od_eq (qe_callTy call_str_int cd_strI (by rfl) T.n_str (by decide +kernel) (qa_cons (qe_callTy call_int_str cd_intS (by rfl) T.n_int (by decide +kernel) (qa_cons (qe_var 0) qa_nil)) qa_nil)) (qe_var 0) (nomark _)) (qe_callTy call_int_str cd_intS (by rfl) T.n_int (by decide +kernel) (qa_cons (qe_var 0) qa_nil)) qe_non))))))
abbrev s_law_bent : Stmt := top 34
theorem sc_law_bent : FnScope [(Str.ofString "_law_jar_here"), (Str.ofString "_law_page_here"), (Str.ofString "_law_way"), (Str.ofString "_law_at"), (Str.ofString "_law_glyph"), (Str.ofString "_law_parts_here"), (Str.ofString "_law_menu")] [(Str.ofString "_law_jar_here"), (Str.ofString "_law_page_here")] (defScope s_law_bent) := ⟨rfl, rfl, rfl, by decide +kernel, rfl, by decide +kernel, by decide +kernel⟩
theorem d_law_bent {P : Program} {w : World} {K : PySem.W.Frag} {mg : Str → Option Value} {base : Heap} (r : Raw K mg (Str.ofString "_law_bent") s_law_bent) (T : Top w K mg) (D_law_dip : Df P w K mg base 1 (Str.ofString "_law_dip") s_law_dip [(Str.ofString "_law_jar_here"), (Str.ofString "_law_wide")] (tf p_law_dip)) (D_law_pick : Df P w K mg base 2 (Str.ofString "_law_pick") s_law_pick [(Str.ofString "_law_jar_here"), (Str.ofString "_law_menu")] (tf p_law_pick)) : Df P w K mg base 3 (Str.ofString "_law_bent") s_law_bent [(Str.ofString "_law_jar_here"), (Str.ofString "_law_page_here")] (tf p_law_bent) :=
  have nd := sc_law_bent.nd
  df_q (b := b_law_bent) r sc_law_bent (fun _ _ _ _ _ _ us hl => match us, hl with | [_, _], _ => rfl) o_law_bent (fun f cdv A outer s H E W hG C =>
  (qss_cons (qs_par3 nd (qe_callD C hG D_law_dip (by decide) (qa_cons (qe_var 0) (qa_cons qe_int qa_nil))) (qe_callD C hG D_law_dip (by decide) (qa_cons (qe_var 0) (qa_cons (qe_op or_add od_add (qe_callB call_len cd_len (by rfl) T.n_len (by decide +kernel) (qa_cons (qe_var 1) qa_nil)) qe_int) qa_nil))) (qe_callD C hG D_law_pick (by decide) (qa_cons (qe_var 0) (qa_cons qe_str qa_nil))))
  (qss_cons (qs_set nd (qe_split (qe_var 1) qe_str))
  (qss_cons (qs_set nd (qe_lst (qa_cons (qe_op or_add od_add (qe_op or_add od_add (qe_sl (qe_var 1) qo_none (qo_some (qe_var 3))) (qe_var 4)) (qe_sl (qe_var 1) (qo_some (qe_var 3)) qo_none)) (qa_cons (qe_op or_add od_add (qe_sl (qe_var 1) qo_none (qo_some (qe_var 3))) (qe_sl (qe_var 1) (qo_some (qe_op or_add od_add (qe_var 3) qe_int)) qo_none)) (qa_cons (qe_op or_add od_add (qe_op or_add od_add (qe_sl (qe_var 1) qo_none (qo_some (qe_var 3))) (qe_var 4)) (qe_sl (qe_var 1) (qo_some (qe_op or_add od_add (qe_var 3) qe_int)) qo_none)) qa_nil)))))
  (qss_cons (qs_set nd (qe_op or_add od_add (qe_var 6) (qe_lst (qa_cons (qe_var 1) (qa_cons (qe_op or_add od_add (qe_var 1) qe_str) qa_nil)))))
  (qss_one (qs_ret (qe_ix (qe_op or_add od_add (qe_var 6) (qe_lst (qa_cons (qe_join qe_str (qe_rev (qe_var 5))) (qa_cons (qe_join qe_str (qe_op or_mul od_mul (qe_var 5) qe_int)) (qa_cons qe_str qa_nil))))) (qe_var 2)))))))))
abbrev s_Lot_str : Stmt := clsB (top 16) 9
theorem sc_Lot_str : FnScope [(Str.ofString "self"), (Str.ofString "numbers"), (Str.ofString "number")] [(Str.ofString "self")] (defScope s_Lot_str) := ⟨rfl, rfl, rfl, by decide +kernel, rfl, by decide +kernel, by decide +kernel⟩
theorem d_Lot_str {P : Program} {w : World} {K : PySem.W.Frag} {mg : Str → Option Value} {base : Heap} (r : RawM K mg (Str.ofString "Lot") (Str.ofString "__str__") (Str.ofString "Lot.__str__") s_Lot_str) (T : Top w K mg) : DfM P w K mg base 1 (Str.ofString "Lot") (Str.ofString "__str__") (Str.ofString "Lot.__str__") s_Lot_str [(Str.ofString "self")] (tf f_Lot_str) :=
  have nd := sc_Lot_str.nd
  dfm_q (b := b_Lot_str) r sc_Lot_str (fun _ _ _ _ _ _ us hl => match us, hl with | [_], _ => rfl) (fun _ _ => M.le_refl _) (fun f cdv A outer s H H0 E W hG C =>
  (qss_one (qs_ret (qe_join qe_str (qe_lc (own := [((Str.ofString "numbers"), 1)]) nd (qi_seq (qe_fld (Str.ofString "Lot") hG T.fx_Lot_kept (qe_var 0))) (blkOk_by (by kernel_rfl)) (fun _ _ _ _ _ => (tg_name nd)) (tin_name (by decide)) (fun _ _ _ _ _ => qts_nil) (fun _ _ _ _ _ => (qe_join qe_str (qe_lc (own := [((Str.ofString "number"), 2)]) nd (qi_seq (qe_var 1)) (blkOk_by (by kernel_rfl)) (fun _ _ _ _ _ => (tg_name nd)) (tin_name (by decide)) (fun _ _ _ _ _ => qts_nil) (fun _ _ _ _ _ => (qe_callTy call_str_int cd_strI (by rfl) T.n_str (by decide +kernel) (qa_cons (qe_var 2) qa_nil)))))))))))
abbrev s_Lot_lists : Stmt := clsB (top 16) 2
theorem sc_Lot_lists : FnScope [(Str.ofString "self")] [(Str.ofString "self")] (defScope s_Lot_lists) := ⟨rfl, rfl, rfl, by decide +kernel, rfl, by decide +kernel, by decide +kernel⟩
theorem d_Lot_lists {P : Program} {w : World} {K : PySem.W.Frag} {mg : Str → Option Value} {base : Heap} (r : RawP K mg (Str.ofString "Lot") (Str.ofString "lists") (Str.ofString "Lot.lists") s_Lot_lists) (T : Top w K mg) : DfP P w K mg base 1 (Str.ofString "Lot") (Str.ofString "lists") [(Str.ofString "self")] (tf f_Lot_lists) :=
  have nd := sc_Lot_lists.nd
  dfp_q (b := b_Lot_lists) r sc_Lot_lists (fun _ _ _ _ _ _ us hl => match us, hl with | [_], _ => rfl) (fun _ _ => M.le_refl _) (fun f cdv A outer s H H0 E W hG C =>
  (qss_one (qs_ret (qe_fld (Str.ofString "Lot") hG T.fx_Lot_kept (qe_var 0)))))
abbrev s_Lot_read : Stmt := clsB (top 16) 1
theorem sc_Lot_read : FnScope [(Str.ofString "cls"), (Str.ofString "text"), (Str.ofString "found")] [(Str.ofString "cls"), (Str.ofString "text")] (defScope s_Lot_read) := ⟨rfl, rfl, rfl, by decide +kernel, rfl, by decide +kernel, by decide +kernel⟩
theorem d_Lot_read {P : Program} {w : World} {K : PySem.W.Frag} {mg : Str → Option Value} {base : Heap} (r : RawC K mg (Str.ofString "Lot") (Str.ofString "read") (Str.ofString "Lot.read") s_Lot_read) (T : Top w K mg) (D_lot_told : Df P w K mg base 6 (Str.ofString "lot_told") s_lot_told [(Str.ofString "text")] (tf f_lot_told)) : DfC P w K mg base 7 (Str.ofString "Lot") (Str.ofString "read") (Str.ofString "Lot.read") s_Lot_read [(Str.ofString "cls"), (Str.ofString "text")] (tf f_Lot_read) :=
  have nd := sc_Lot_read.nd
  dfc_q (b := b_Lot_read) r sc_Lot_read (fun _ _ _ _ _ _ us hl => match us, hl with | [_, _], _ => rfl) (fun _ _ => M.le_refl _) (fun f cdv A outer s H H0 E W hG C =>
  (qss_cons (qs_set nd (qe_callD C hG D_lot_told (by decide) (qa_cons (qe_var 1) qa_nil)))
  (qss_cons (qs_if (qt_isN (qe_var 2)) (qss_one (qs_raise1 C hG T.x1_InvalidText (by decide) (qe_var 1))) qss_nil)
  (qss_one (qs_ret (qe_var 2))))))
abbrev s_law_right : Stmt := top 35
theorem sc_law_right : FnScope [(Str.ofString "_law_jar_here"), (Str.ofString "_law_turn"), (Str.ofString "_law_page_here"), (Str.ofString "_law_value"), (Str.ofString "_law_told"), (Str.ofString "_law_line"), (Str.ofString "_law_word")] [(Str.ofString "_law_jar_here")] (defScope s_law_right) := ⟨rfl, rfl, rfl, by decide +kernel, rfl, by decide +kernel, by decide +kernel⟩
theorem d_law_right {P : Program} {w : World} {K : PySem.W.Frag} {mg : Str → Option Value} {base : Heap} (r : Raw K mg (Str.ofString "_law_right") s_law_right) (T : Top w K mg) (TB : TabsB K mg base) (D_Lot_str : DfM P w K mg base 1 (Str.ofString "Lot") (Str.ofString "__str__") (Str.ofString "Lot.__str__") s_Lot_str [(Str.ofString "self")] (tf f_Lot_str)) (D_Lot_lists : DfP P w K mg base 1 (Str.ofString "Lot") (Str.ofString "lists") [(Str.ofString "self")] (tf f_Lot_lists)) (D_Lot_read : DfC P w K mg base 7 (Str.ofString "Lot") (Str.ofString "read") (Str.ofString "Lot.read") s_Lot_read [(Str.ofString "cls"), (Str.ofString "text")] (tf f_Lot_read)) (D_law_any_lot : Df P w K mg base 4 (Str.ofString "_law_any_lot") s_law_any_lot [(Str.ofString "_law_jar_here")] (tf p_law_any_lot)) (D_law_bent : Df P w K mg base 3 (Str.ofString "_law_bent") s_law_bent [(Str.ofString "_law_jar_here"), (Str.ofString "_law_page_here")] (tf p_law_bent)) (D_law_caught : DfL P w K mg base 9 (Str.ofString "_law_caught") f_law_caught) (D_law_dip : Df P w K mg base 1 (Str.ofString "_law_dip") s_law_dip [(Str.ofString "_law_jar_here"), (Str.ofString "_law_wide")] (tf p_law_dip)) (D_law_lot_slip : Df P w K mg base 2 (Str.ofString "_law_lot_slip") s_law_lot_slip [(Str.ofString "_law_value")] (tf f_law_lot_slip)) (D_law_number_in : Df P w K mg base 1 (Str.ofString "_law_number_in") s_law_number_in [(Str.ofString "_law_word")] (tf f_law_number_in)) (D_law_odd : Df P w K mg base 3 (Str.ofString "_law_odd") s_law_odd [(Str.ofString "_law_jar_here")] (tf p_law_odd)) (D_law_page : Df P w K mg base 1 (Str.ofString "_law_page") s_law_page [(Str.ofString "_law_lists_here")] (tf f_law_page)) : Df P w K mg base 12 (Str.ofString "_law_right") s_law_right [(Str.ofString "_law_jar_here")] (tf p_law_right) :=
  have nd := sc_law_right.nd
  df_qM (b := b_law_right) r T.tb_law_right sc_law_right (fun _ _ _ _ _ _ us hl => match us, hl with | [_], _ => rfl) o_law_right (fun f c Pt A outer s H E W ht hG C =>
  (qss_cons (qs_for [1, 2, 3, 4] C.po (qi_range1 (qa_cons qe_int qa_nil) (by rfl) T.n_range) (tg_name nd) (qss_cons (qs_set nd (qe_callD C hG D_law_bent (by decide) (qa_cons (qe_var 0) (qa_cons (qe_callD C hG D_law_page (by decide) (qa_cons (qe_callD C hG D_law_any_lot (by decide) (qa_cons (qe_var 0) qa_nil)) qa_nil)) qa_nil))))
  (qss_cons (qs_set nd (qe_if (qt_cmp op_gt od_gt (qe_callD C hG D_law_dip (by decide) (qa_cons (qe_var 0) (qa_cons qe_int qa_nil))) qe_int (nomark _)) (qe_var 2) (qe_callD C hG D_law_odd (by decide) (qa_cons (qe_var 0) qa_nil))))
  (qss_cons (qs_set nd qe_non)
  (qss_cons (qs_if (qt_val (qe_callB call_isi cd_isi (by rfl) T.n_isinstance (by decide +kernel) (qa_cons (qe_var 2) (qa_cons (qe_bty (by rfl) T.n_str (by decide +kernel)) qa_nil)))) (qss_one (qs_set nd (qe_callTy call_tuple_of cd_tuple (by rfl) T.n_tuple (by decide +kernel) (qa_cons (qe_lc (own := [((Str.ofString "_law_line"), 5)]) nd (qi_seq (qe_split (qe_var 2) qe_str)) (blkOk_by (by kernel_rfl)) (fun _ _ _ _ _ => (tg_name nd)) (tin_name (by decide)) (fun _ _ _ _ _ => qts_nil) (fun _ _ _ _ _ => (qe_callTy call_tuple_of cd_tuple (by rfl) T.n_tuple (by decide +kernel) (qa_cons (qe_lc (own := [((Str.ofString "_law_word"), 6)]) nd (qi_seq (qe_split (qe_var 5) qe_str)) (blkOk_by (by kernel_rfl)) (fun _ _ _ _ _ => (tg_name nd)) (tin_name (by decide)) (fun _ _ _ _ _ => qts_nil) (fun _ _ _ _ _ => (qe_callD (C.blk _ _ _ _ _ PassesOwn.never) hG D_law_number_in (by decide) (qa_cons (qe_var 6) qa_nil)))) qa_nil)))) qa_nil)))) qss_nil)
  (qss_cons (qs_set nd (qe_lam (y := (Str.ofString "_law_right")) C hG D_law_caught (by decide) TB (by decide +kernel) ⟨_, _, rfl, ht⟩ (by rfl) (fun A outer s H E f c' C => (qe_cmethK [0] [(Str.ofString "text")] C hG D_Lot_read (by decide) (qk_cons (qe_var 2) qk_nil) (fun _ _ _ _ _ _ _ ws hk => match ws, hk with | [_], _ => rfl))) (LamX.lamS_by (by kernel_rfl))))
  (qss_one (qs_if (qt_cmp (or_eqA C.u64) od_eq (qe_callD C hG D_law_lot_slip (by decide) (qa_cons (qe_var 3) qa_nil)) (qe_lst qa_nil) (nomark _)) (qss_one (qs_if (QW.pt (qw_or (qt_cmp (or_neA C.u64) od_ne (qe_ixV 4 qe_int) qe_str (nomark _)) (qw_or (qt_cmp (or_neA C.u64) od_ne (qe_prop C hG D_Lot_lists rfl (by decide) (qe_ixV 4 qe_int)) (qe_var 3) (nomark _)) (qw_or1 (qt_cmp (or_neA C.u64) od_ne (qe_strO C hG D_Lot_str (by decide) (by rfl) T.n_str (qe_ixV 4 qe_int)) (qe_var 2) (nomark _)))))) (qss_one (qs_ret qe_bl)) qss_nil)) (qss_one (qs_if (qt_cmp (or_neA C.u64) od_ne (qe_var 4) (qe_lst (qa_cons qe_str (qa_cons (qe_callB (cr_reprX C.gd C.u64) cd_reprX (by rfl) T.n_repr (by decide +kernel) (qa_cons (qe_var 2) qa_nil)) qa_nil))) (nomark _)) (qss_one (qs_ret qe_bl)) qss_nil))))))))))
  (qss_one (qs_ret qe_bl))))
abbrev s_law : Stmt := top 36
theorem sc_law : FnScope [(Str.ofString "_law_script"), (Str.ofString "_law_k")] [(Str.ofString "_law_script")] (defScope s_law) := ⟨rfl, rfl, rfl, by decide +kernel, rfl, by decide +kernel, by decide +kernel⟩
theorem d_law {P : Program} {w : World} {K : PySem.W.Frag} {mg : Str → Option Value} {base : Heap} (r : Raw K mg (Str.ofString "law") s_law) (T : Top w K mg) (D_law_jar : Df P w K mg base 1 (Str.ofString "_law_jar") s_law_jar [(Str.ofString "_law_script"), (Str.ofString "_law_k")] (tf p_law_jar)) (D_law_right : Df P w K mg base 12 (Str.ofString "_law_right") s_law_right [(Str.ofString "_law_jar_here")] (tf p_law_right)) : Df P w K mg base 13 (Str.ofString "law") s_law [(Str.ofString "_law_script")] (tf f_law) :=
  have nd := sc_law.nd
  df_q (b := b_law) r sc_law (fun _ _ _ _ _ _ us hl => match us, hl with | [_], _ => rfl) (fun _ _ => M.le_refl _) (fun f cdv A outer s H E W hG C =>
  (qss_cons (qs_for [1] C.po (qi_range1 (qa_cons (qe_callB (call_max2 rfl) cd_max2 (by rfl) T.n_max (by decide +kernel) (qa_cons qe_int (qa_cons (qe_callB (call_min2 rfl) cd_min2 (by rfl) T.n_min (by decide +kernel) (qa_cons (qe_callB call_len cd_len (by rfl) T.n_len (by decide +kernel) (qa_cons (qe_var 0) qa_nil)) (qa_cons qe_int qa_nil))) qa_nil))) qa_nil) (by rfl) T.n_range) (tg_name nd) (qss_one (qs_if (qt_not (qt_val (qe_callD C hG D_law_right (by decide) (qa_cons (qe_callD C hG D_law_jar (by decide) (qa_cons (qe_var 0) (qa_cons (qe_var 1) qa_nil))) qa_nil)))) (qss_one (qs_ret qe_bl)) qss_nil)))
  (qss_one (qs_ret qe_bl))))
theorem raws_ok {l : PySem.W.OpenLaw} {w : World} {K : PySem.W.Frag} {h : Heap} {mg : Str → Option Value} {fa : Addr} (X : K.In h) (G : h.Ns mainGlobals mg) (hfa : mg "law" = some (.ref fa)) (T : Top w K mg)
    (r_is_integer : Raw K mg (Str.ofString "is_integer") s_is_integer)
    (r_is_list : Raw K mg (Str.ofString "is_list") s_is_list)
    (r_check_lists : Raw K mg (Str.ofString "check_lists") s_check_lists)
    (r_number_told : Raw K mg (Str.ofString "number_told") s_number_told)
    (r_Lot_init : RawI K mg (Str.ofString "Lot") (Str.ofString "Lot.__init__") s_Lot_init)
    (r_lot_told : Raw K mg (Str.ofString "lot_told") s_lot_told)
    (r_law_jar : Raw K mg (Str.ofString "_law_jar") s_law_jar)
    (r_law_dip : Raw K mg (Str.ofString "_law_dip") s_law_dip)
    (r_law_pick : Raw K mg (Str.ofString "_law_pick") s_law_pick)
    (r_law_some_list : Raw K mg (Str.ofString "_law_some_list") s_law_some_list)
    (r_law_steps_of : Raw K mg (Str.ofString "_law_steps_of") s_law_steps_of)
    (r_law_built : Raw K mg (Str.ofString "_law_built") s_law_built)
    (r_law_shifted : Raw K mg (Str.ofString "_law_shifted") s_law_shifted)
    (r_law_any_lot : Raw K mg (Str.ofString "_law_any_lot") s_law_any_lot)
    (r_law_odd : Raw K mg (Str.ofString "_law_odd") s_law_odd)
    (r_law_bases : Raw K mg (Str.ofString "_law_bases") s_law_bases)
    (r_law_shown : Raw K mg (Str.ofString "_law_shown") s_law_shown)
    (r_law_caught : Raw K mg (Str.ofString "_law_caught") s_law_caught)
    (r_law_is_list : Raw K mg (Str.ofString "_law_is_list") s_law_is_list)
    (r_law_lot_slip : Raw K mg (Str.ofString "_law_lot_slip") s_law_lot_slip)
    (r_law_page : Raw K mg (Str.ofString "_law_page") s_law_page)
    (r_law_number_in : Raw K mg (Str.ofString "_law_number_in") s_law_number_in)
    (r_law_bent : Raw K mg (Str.ofString "_law_bent") s_law_bent)
    (r_Lot_str : RawM K mg (Str.ofString "Lot") (Str.ofString "__str__") (Str.ofString "Lot.__str__") s_Lot_str)
    (r_Lot_lists : RawP K mg (Str.ofString "Lot") (Str.ofString "lists") (Str.ofString "Lot.lists") s_Lot_lists)
    (r_Lot_read : RawC K mg (Str.ofString "Lot") (Str.ofString "read") (Str.ofString "Lot.read") s_Lot_read)
    (r_law_right : Raw K mg (Str.ofString "_law_right") s_law_right)
    (r_law : Raw K mg (Str.ofString "law") s_law)
    : ∃ fd : FuncData, (∀ (s : Shared) (u : Value), BindsTo s fd ⟨[u], []⟩ [((Str.ofString "_law_script"), u)]) ∧ ∀ base : Heap, K.In base → base.Ns mainGlobals mg → TabsB K mg base → FnG l.prog w K mg base 13 fa fd [(Str.ofString "_law_script")] (tf f_law) := by
  refine end_of X G hfa r_law (fun _ _ _ _ _ _ _ _ => .of_eq rfl) fun base kb TB => ?_
  have D_is_integer : Df l.prog w K mg base 1 (Str.ofString "is_integer") s_is_integer [(Str.ofString "value")] (tf f_is_integer) := d_is_integer r_is_integer T
  have D_is_list : Df l.prog w K mg base 2 (Str.ofString "is_list") s_is_list [(Str.ofString "value")] (tf f_is_list) := d_is_list r_is_list T D_is_integer
  have D_check_lists : Df l.prog w K mg base 3 (Str.ofString "check_lists") s_check_lists [(Str.ofString "lists")] (tf f_check_lists) := d_check_lists r_check_lists T D_is_list
  have D_number_told : Df l.prog w K mg base 1 (Str.ofString "number_told") s_number_told [(Str.ofString "word")] (tf f_number_told) := d_number_told r_number_told T
  have D_Lot_init : DfI l.prog w K mg base 4 (Str.ofString "Lot") (Str.ofString "Lot.__init__") s_Lot_init [(Str.ofString "self"), (Str.ofString "lists")] (tf f_Lot_init) := d_Lot_init r_Lot_init T D_check_lists
  have D_lot_told : Df l.prog w K mg base 6 (Str.ofString "lot_told") s_lot_told [(Str.ofString "text")] (tf f_lot_told) := d_lot_told r_lot_told T D_Lot_init D_number_told
  have D_law_jar : Df l.prog w K mg base 1 (Str.ofString "_law_jar") s_law_jar [(Str.ofString "_law_script"), (Str.ofString "_law_k")] (tf p_law_jar) := (d_law_jar r_law_jar T).jarM j_law_jar
  have D_law_dip : Df l.prog w K mg base 1 (Str.ofString "_law_dip") s_law_dip [(Str.ofString "_law_jar_here"), (Str.ofString "_law_wide")] (tf p_law_dip) := d_law_dip r_law_dip T
  have D_law_pick : Df l.prog w K mg base 2 (Str.ofString "_law_pick") s_law_pick [(Str.ofString "_law_jar_here"), (Str.ofString "_law_menu")] (tf p_law_pick) := d_law_pick r_law_pick T D_law_dip
  have D_law_some_list : Df l.prog w K mg base 3 (Str.ofString "_law_some_list") s_law_some_list [(Str.ofString "_law_jar_here"), (Str.ofString "_law_most_here"), (Str.ofString "_law_wide")] (tf p_law_some_list) := d_law_some_list r_law_some_list T D_law_dip D_law_pick
  have D_law_steps_of : Df l.prog w K mg base 3 (Str.ofString "_law_steps_of") s_law_steps_of [(Str.ofString "_law_jar_here"), (Str.ofString "_law_lists_here"), (Str.ofString "_law_most_here")] (tf p_law_steps_of) := d_law_steps_of r_law_steps_of T D_law_dip D_law_pick
  have D_law_built : Df l.prog w K mg base 1 (Str.ofString "_law_built") s_law_built [(Str.ofString "_law_steps_here"), (Str.ofString "_law_lists_here")] (tf f_law_built) := d_law_built r_law_built T
  have D_law_shifted : Df l.prog w K mg base 3 (Str.ofString "_law_shifted") s_law_shifted [(Str.ofString "_law_jar_here"), (Str.ofString "_law_lists_here")] (tf p_law_shifted) := d_law_shifted r_law_shifted T D_law_dip D_law_pick
  have D_law_any_lot : Df l.prog w K mg base 4 (Str.ofString "_law_any_lot") s_law_any_lot [(Str.ofString "_law_jar_here")] (tf p_law_any_lot) := d_law_any_lot r_law_any_lot T D_law_built D_law_dip D_law_shifted D_law_some_list D_law_steps_of
  have D_law_odd : Df l.prog w K mg base 3 (Str.ofString "_law_odd") s_law_odd [(Str.ofString "_law_jar_here")] (tf p_law_odd) := d_law_odd r_law_odd T D_law_pick
  have D_law_bases : DfH l.prog w K mg base 1 (Str.ofString "_law_bases") s_law_bases [(Str.ofString "_law_e")] (tf f_law_bases) := d_law_bases r_law_bases T
  have D_law_shown : DfH l.prog w K mg base 2 (Str.ofString "_law_shown") s_law_shown [(Str.ofString "_law_e")] (tf f_law_shown) := d_law_shown r_law_shown T D_law_bases
  have D_law_caught : DfL l.prog w K mg base 9 (Str.ofString "_law_caught") f_law_caught := d_law_caught r_law_caught T D_law_shown
  have D_law_is_list : Df l.prog w K mg base 1 (Str.ofString "_law_is_list") s_law_is_list [(Str.ofString "_law_value")] (tf f_law_is_list) := d_law_is_list r_law_is_list T
  have D_law_lot_slip : Df l.prog w K mg base 2 (Str.ofString "_law_lot_slip") s_law_lot_slip [(Str.ofString "_law_value")] (tf f_law_lot_slip) := d_law_lot_slip r_law_lot_slip T D_law_is_list
  have D_law_page : Df l.prog w K mg base 1 (Str.ofString "_law_page") s_law_page [(Str.ofString "_law_lists_here")] (tf f_law_page) := d_law_page r_law_page T
  have D_law_number_in : Df l.prog w K mg base 1 (Str.ofString "_law_number_in") s_law_number_in [(Str.ofString "_law_word")] (tf f_law_number_in) := d_law_number_in r_law_number_in T
  have D_law_bent : Df l.prog w K mg base 3 (Str.ofString "_law_bent") s_law_bent [(Str.ofString "_law_jar_here"), (Str.ofString "_law_page_here")] (tf p_law_bent) := d_law_bent r_law_bent T D_law_dip D_law_pick
  have D_Lot_str : DfM l.prog w K mg base 1 (Str.ofString "Lot") (Str.ofString "__str__") (Str.ofString "Lot.__str__") s_Lot_str [(Str.ofString "self")] (tf f_Lot_str) := d_Lot_str r_Lot_str T
  have D_Lot_lists : DfP l.prog w K mg base 1 (Str.ofString "Lot") (Str.ofString "lists") [(Str.ofString "self")] (tf f_Lot_lists) := d_Lot_lists r_Lot_lists T
  have D_Lot_read : DfC l.prog w K mg base 7 (Str.ofString "Lot") (Str.ofString "read") (Str.ofString "Lot.read") s_Lot_read [(Str.ofString "cls"), (Str.ofString "text")] (tf f_Lot_read) := d_Lot_read r_Lot_read T D_lot_told
  have D_law_right : Df l.prog w K mg base 12 (Str.ofString "_law_right") s_law_right [(Str.ofString "_law_jar_here")] (tf p_law_right) := d_law_right r_law_right T TB D_Lot_str D_Lot_lists D_Lot_read D_law_any_lot D_law_bent D_law_caught D_law_dip D_law_lot_slip D_law_number_in D_law_odd D_law_page
  have D_law : Df l.prog w K mg base 13 (Str.ofString "law") s_law [(Str.ofString "_law_script")] (tf f_law) := d_law r_law T D_law_jar D_law_right
  exact D_law
end Law
open PySem PySem.W PyProof.Rows
set_option maxRecDepth 100000 in
set_option maxHeartbeats 0 in
theorem PySem.Challenge.cw_onesums_k04_whole_texts_of_lots_holds : PySem.Challenge.rw_onesums_k04_whole_texts_of_lots.Holds := by
  w_on; o_law; k_head; (case hw => w_witness2)
  k_fill
  refine DL.walk_g (l := PySem.Challenge.rw_onesums_k04_whole_texts_of_lots) (k := 13) (wf := DL.tf Law.f_law) (x := Str.ofString "_law_script") rfl (by decide) rfl ⟨rfl, by decide, by decide⟩ (fun w h Y => by first | exact PySem.W.kIn_of Y | exact PySem.W.km_in_of Y) (fun w => ⟨by kernel_rfl, by kernel_rfl⟩) ?F (fun ns hl => DL.law_tf (Law.law_true ns hl))
  case F =>
    intro w mg fa h KX G hmg
    refine' Law.raws_ok KX G hmg ?T ?r_is_integer ?r_is_list ?r_check_lists ?r_number_told ?r_Lot_init ?r_lot_told ?r_law_jar ?r_law_dip ?r_law_pick ?r_law_some_list ?r_law_steps_of ?r_law_built ?r_law_shifted ?r_law_any_lot ?r_law_odd ?r_law_bases ?r_law_shown ?r_law_caught ?r_law_is_list ?r_law_lot_slip ?r_law_page ?r_law_number_in ?r_law_bent ?r_Lot_str ?r_Lot_lists ?r_Lot_read ?r_law_right ?r_law
    case T =>
      constructor
      · refine' PySem.W.mg_none_of KX G ?z; (case z => k_is)
      · refine' PySem.W.mg_none_of KX G ?z; (case z => k_is)
      · refine' PySem.W.mg_none_of KX G ?z; (case z => k_is)
      · refine' PySem.W.mg_none_of KX G ?z; (case z => k_is)
      · refine' PySem.W.mg_none_of KX G ?z; (case z => k_is)
      · refine' PySem.W.mg_none_of KX G ?z; (case z => k_is)
      · refine' PySem.W.mg_none_of KX G ?z; (case z => k_is)
      · refine' PySem.W.mg_none_of KX G ?z; (case z => k_is)
      · refine' PySem.W.mg_none_of KX G ?z; (case z => k_is)
      · refine' PySem.W.mg_none_of KX G ?z; (case z => k_is)
      · refine' PySem.W.mg_none_of KX G ?z; (case z => k_is)
      · refine' PySem.W.mg_none_of KX G ?z; (case z => k_is)
      · refine' PySem.W.mg_none_of KX G ?z; (case z => k_is)
      · refine' PySem.W.mg_none_of KX G ?z; (case z => k_is)
      · refine' PySem.W.mg_none_of KX G ?z; (case z => k_is)
      · refine' DL.gstr_mk KX G ?z; (case z => k_is)
      · refine' DL.gint_mk KX G ?z; (case z => k_is)
      · refine' DL.gint_mk KX G ?z; (case z => k_is)
      · refine' DL.fldx_mk KX G ?z ?p1 ?p2 ?p3 ?p4 ?n; (case z => k_is); (case p1 => k_is); (case p2 => k_is); (case p3 => k_is); (case p4 => k_is); (case n => k_is)
      · refine' DL.isix_mk KX G ?z ?i ?t; (case z => k_is); (case i => k_is); (case t => k_is)
      · refine' ⟨DL.insx_mk KX G ?z ?p1 ?p2 ?p3 ?p4 ?q1 ?q2 ?q3 ?q4, DL.subx_self KX G ?y⟩; (case z => k_is); (case p1 => k_is); (case p2 => k_is); (case p3 => k_is); (case p4 => k_is); (case q1 => k_is); (case q2 => k_is); (case q3 => k_is); (case q4 => k_is); (case y => k_is)
      · refine' DL.nmc_own KX G ?z; (case z => k_is)
      · refine' DL.nmc_own KX G ?z; (case z => k_is)
      · refine' DL.nmc_own KX G ?z; (case z => k_is)
      · refine' DL.nmc_own KX G ?z; (case z => k_is)
      · refine' .inr ⟨PySem.W.mg_none_of KX G ?z, ⟨"ArithmeticError", by decide +kernel⟩, by decide⟩; (case z => k_is)
      · refine' .inl (DL.nmc_own KX G ?z); (case z => k_is)
      · refine' .inr ⟨PySem.W.mg_none_of KX G ?z, ⟨"LookupError", by decide +kernel⟩, by decide⟩; (case z => k_is)
      · refine' .inl (DL.nmc_own KX G ?z); (case z => k_is)
      · refine' .inr ⟨PySem.W.mg_none_of KX G ?z, ⟨"ValueError", by decide +kernel⟩, by decide⟩; (case z => k_is)
      · refine' .inl (DL.nmc_own KX G ?z); (case z => k_is)
      · refine' .inl (DL.nmc_own KX G ?z); (case z => k_is)
      · refine' DL.xk1_mk KX G DL.xb_ve Law.xi_InvalidLists ?z ?xq ?hd ?sa ?p1 ?p2 ?p3 ?ga ?gg ?i ?t ?no ?l ?c ?k; (case z => k_is); (case xq => kx_is); (case hd => k_is); (case sa => k_is); (case p1 => k_is); (case p2 => k_is); (case p3 => k_is); (case ga => k_is); (case gg => k_is); (case i => k_is); (case t => k_is); (case no => k_is); (case l => k_is); (case c => k_is); (case k => k_is)
      · refine' DL.xk1_mk KX G DL.xb_ve Law.xi_InvalidText ?z ?xq ?hd ?sa ?p1 ?p2 ?p3 ?ga ?gg ?i ?t ?no ?l ?c ?k; (case z => k_is); (case xq => kx_is); (case hd => k_is); (case sa => k_is); (case p1 => k_is); (case p2 => k_is); (case p3 => k_is); (case ga => k_is); (case gg => k_is); (case i => k_is); (case t => k_is); (case no => k_is); (case l => k_is); (case c => k_is); (case k => k_is)
      · refine' List.forall_mem_cons.mpr ⟨DL.xrow_own KX G ?z ?y ?e ?hd ?t ?u, ?_⟩; (case z => k_is); (case y => k_is); (case e => k_is); (case hd => k_is); (case t => k_is); (case u => k_is)
        refine' List.forall_mem_cons.mpr ⟨DL.xrow_own KX G ?z ?y ?e ?hd ?t ?u, ?_⟩; (case z => k_is); (case y => k_is); (case e => k_is); (case hd => k_is); (case t => k_is); (case u => k_is)
        refine' List.forall_mem_cons.mpr ⟨DL.xrow_own KX G ?z ?y ?e ?hd ?t ?u, ?_⟩; (case z => k_is); (case y => k_is); (case e => k_is); (case hd => k_is); (case t => k_is); (case u => k_is)
        refine' List.forall_mem_cons.mpr ⟨DL.xrow_own KX G ?z ?y ?e ?hd ?t ?u, ?_⟩; (case z => k_is); (case y => k_is); (case e => k_is); (case hd => k_is); (case t => k_is); (case u => k_is)
        refine' List.forall_mem_cons.mpr ⟨DL.xrow_own KX G ?z ?y ?e ?hd ?t ?u, ?_⟩; (case z => k_is); (case y => k_is); (case e => k_is); (case hd => k_is); (case t => k_is); (case u => k_is)
        refine' List.forall_mem_cons.mpr ⟨DL.xrow_own KX G ?z ?y ?e ?hd ?t ?u, ?_⟩; (case z => k_is); (case y => k_is); (case e => k_is); (case hd => k_is); (case t => k_is); (case u => k_is)
        refine' List.forall_mem_cons.mpr ⟨DL.xrow_own KX G ?z ?y ?e ?hd ?t ?u, ?_⟩; (case z => k_is); (case y => k_is); (case e => k_is); (case hd => k_is); (case t => k_is); (case u => k_is)
        refine' List.forall_mem_cons.mpr ⟨DL.xrow_own KX G ?z ?y ?e ?hd ?t ?u, ?_⟩; (case z => k_is); (case y => k_is); (case e => k_is); (case hd => k_is); (case t => k_is); (case u => k_is)
        exact fun _ h => nomatch h
      · refine' List.forall_mem_cons.mpr ⟨DL.nmc_own KX G ?z, ?_⟩; (case z => k_is)
        refine' List.forall_mem_cons.mpr ⟨DL.nmc_own KX G ?z, ?_⟩; (case z => k_is)
        exact fun _ h => nomatch h
      · refine' List.forall_mem_cons.mpr ⟨DL.frow_mk KX G ?z (DL.xins_mk ?hd ?ga ?gg ?p1 ?q1 ?q2 ?q3 ?q4) ?n, ?_⟩; (case z => k_is); (case hd => k_is); (case ga => k_is); (case gg => k_is); (case p1 => k_is); (case q1 => k_is); (case q2 => k_is); (case q3 => k_is); (case q4 => k_is); (case n => k_is)
        exact fun _ h => nomatch h
      · refine' List.forall_mem_cons.mpr ⟨DL.irow_bt (C := (Str.ofString "InvalidLists")) (N := (Str.ofString "ArithmeticError")) (T := "ArithmeticError") KX G ?z (DL.xins_mk ?hd ?ga ?gg ?p1 ?q1 ?q2 ?q3 ?q4) ?y (by decide +kernel) ?u, ?_⟩; (case z => k_is); (case hd => k_is); (case ga => k_is); (case gg => k_is); (case p1 => k_is); (case q1 => k_is); (case q2 => k_is); (case q3 => k_is); (case q4 => k_is); (case y => k_is); (case u => kit_is)
        refine' List.forall_mem_cons.mpr ⟨DL.irow_own KX G ?z (DL.xins_mk ?hd ?ga ?gg ?p1 ?q1 ?q2 ?q3 ?q4) ?y ?u, ?_⟩; (case z => k_is); (case hd => k_is); (case ga => k_is); (case gg => k_is); (case p1 => k_is); (case q1 => k_is); (case q2 => k_is); (case q3 => k_is); (case q4 => k_is); (case y => k_is); (case u => kit_is)
        refine' List.forall_mem_cons.mpr ⟨DL.irow_bt (C := (Str.ofString "InvalidLists")) (N := (Str.ofString "LookupError")) (T := "LookupError") KX G ?z (DL.xins_mk ?hd ?ga ?gg ?p1 ?q1 ?q2 ?q3 ?q4) ?y (by decide +kernel) ?u, ?_⟩; (case z => k_is); (case hd => k_is); (case ga => k_is); (case gg => k_is); (case p1 => k_is); (case q1 => k_is); (case q2 => k_is); (case q3 => k_is); (case q4 => k_is); (case y => k_is); (case u => kit_is)
        refine' List.forall_mem_cons.mpr ⟨DL.irow_own KX G ?z (DL.xins_mk ?hd ?ga ?gg ?p1 ?q1 ?q2 ?q3 ?q4) ?y ?u, ?_⟩; (case z => k_is); (case hd => k_is); (case ga => k_is); (case gg => k_is); (case p1 => k_is); (case q1 => k_is); (case q2 => k_is); (case q3 => k_is); (case q4 => k_is); (case y => k_is); (case u => kit_is)
        refine' List.forall_mem_cons.mpr ⟨DL.irow_bt (C := (Str.ofString "InvalidLists")) (N := (Str.ofString "ValueError")) (T := "ValueError") KX G ?z (DL.xins_mk ?hd ?ga ?gg ?p1 ?q1 ?q2 ?q3 ?q4) ?y (by decide +kernel) ?u, ?_⟩; (case z => k_is); (case hd => k_is); (case ga => k_is); (case gg => k_is); (case p1 => k_is); (case q1 => k_is); (case q2 => k_is); (case q3 => k_is); (case q4 => k_is); (case y => k_is); (case u => kit_is)
        refine' List.forall_mem_cons.mpr ⟨DL.irow_own KX G ?z (DL.xins_mk ?hd ?ga ?gg ?p1 ?q1 ?q2 ?q3 ?q4) ?y ?u, ?_⟩; (case z => k_is); (case hd => k_is); (case ga => k_is); (case gg => k_is); (case p1 => k_is); (case q1 => k_is); (case q2 => k_is); (case q3 => k_is); (case q4 => k_is); (case y => k_is); (case u => kit_is)
        refine' List.forall_mem_cons.mpr ⟨DL.irow_own KX G ?z (DL.xins_mk ?hd ?ga ?gg ?p1 ?q1 ?q2 ?q3 ?q4) ?y ?u, ?_⟩; (case z => k_is); (case hd => k_is); (case ga => k_is); (case gg => k_is); (case p1 => k_is); (case q1 => k_is); (case q2 => k_is); (case q3 => k_is); (case q4 => k_is); (case y => k_is); (case u => kit_is)
        refine' List.forall_mem_cons.mpr ⟨DL.irow_bt (C := (Str.ofString "InvalidText")) (N := (Str.ofString "ArithmeticError")) (T := "ArithmeticError") KX G ?z (DL.xins_mk ?hd ?ga ?gg ?p1 ?q1 ?q2 ?q3 ?q4) ?y (by decide +kernel) ?u, ?_⟩; (case z => k_is); (case hd => k_is); (case ga => k_is); (case gg => k_is); (case p1 => k_is); (case q1 => k_is); (case q2 => k_is); (case q3 => k_is); (case q4 => k_is); (case y => k_is); (case u => kit_is)
        refine' List.forall_mem_cons.mpr ⟨DL.irow_own KX G ?z (DL.xins_mk ?hd ?ga ?gg ?p1 ?q1 ?q2 ?q3 ?q4) ?y ?u, ?_⟩; (case z => k_is); (case hd => k_is); (case ga => k_is); (case gg => k_is); (case p1 => k_is); (case q1 => k_is); (case q2 => k_is); (case q3 => k_is); (case q4 => k_is); (case y => k_is); (case u => kit_is)
        refine' List.forall_mem_cons.mpr ⟨DL.irow_bt (C := (Str.ofString "InvalidText")) (N := (Str.ofString "LookupError")) (T := "LookupError") KX G ?z (DL.xins_mk ?hd ?ga ?gg ?p1 ?q1 ?q2 ?q3 ?q4) ?y (by decide +kernel) ?u, ?_⟩; (case z => k_is); (case hd => k_is); (case ga => k_is); (case gg => k_is); (case p1 => k_is); (case q1 => k_is); (case q2 => k_is); (case q3 => k_is); (case q4 => k_is); (case y => k_is); (case u => kit_is)
        refine' List.forall_mem_cons.mpr ⟨DL.irow_own KX G ?z (DL.xins_mk ?hd ?ga ?gg ?p1 ?q1 ?q2 ?q3 ?q4) ?y ?u, ?_⟩; (case z => k_is); (case hd => k_is); (case ga => k_is); (case gg => k_is); (case p1 => k_is); (case q1 => k_is); (case q2 => k_is); (case q3 => k_is); (case q4 => k_is); (case y => k_is); (case u => kit_is)
        refine' List.forall_mem_cons.mpr ⟨DL.irow_bt (C := (Str.ofString "InvalidText")) (N := (Str.ofString "ValueError")) (T := "ValueError") KX G ?z (DL.xins_mk ?hd ?ga ?gg ?p1 ?q1 ?q2 ?q3 ?q4) ?y (by decide +kernel) ?u, ?_⟩; (case z => k_is); (case hd => k_is); (case ga => k_is); (case gg => k_is); (case p1 => k_is); (case q1 => k_is); (case q2 => k_is); (case q3 => k_is); (case q4 => k_is); (case y => k_is); (case u => kit_is)
        refine' List.forall_mem_cons.mpr ⟨DL.irow_own KX G ?z (DL.xins_mk ?hd ?ga ?gg ?p1 ?q1 ?q2 ?q3 ?q4) ?y ?u, ?_⟩; (case z => k_is); (case hd => k_is); (case ga => k_is); (case gg => k_is); (case p1 => k_is); (case q1 => k_is); (case q2 => k_is); (case q3 => k_is); (case q4 => k_is); (case y => k_is); (case u => kit_is)
        refine' List.forall_mem_cons.mpr ⟨DL.irow_own KX G ?z (DL.xins_mk ?hd ?ga ?gg ?p1 ?q1 ?q2 ?q3 ?q4) ?y ?u, ?_⟩; (case z => k_is); (case hd => k_is); (case ga => k_is); (case gg => k_is); (case p1 => k_is); (case q1 => k_is); (case q2 => k_is); (case q3 => k_is); (case q4 => k_is); (case y => k_is); (case u => kit_is)
        exact fun _ h => nomatch h
      · refine' DL.tabx_mk KX G ?z ?l ?yc ?ym ?yv; (case z => k_is); (case l => k_is); (case yc => exact rfl); (case ym => k_is); (case yv => exact rfl)
    case r_is_integer =>
      refine' DL.raw_mk KX G ?a ?l ?c ?k; (case a => k_is); (case l => k_is); (case c => k_is); (case k => k_is)
    case r_is_list =>
      refine' DL.raw_mk KX G ?a ?l ?c ?k; (case a => k_is); (case l => k_is); (case c => k_is); (case k => k_is)
    case r_check_lists =>
      refine' DL.raw_mk KX G ?a ?l ?c ?k; (case a => k_is); (case l => k_is); (case c => k_is); (case k => k_is)
    case r_number_told =>
      refine' DL.raw_mk KX G ?a ?l ?c ?k; (case a => k_is); (case l => k_is); (case c => k_is); (case k => k_is)
    case r_Lot_init =>
      refine' DL.rawi_mk KX G ?z ?p1 ?p2 ?p3 ?p4 ?m ?a ?i ?k0 ?l ?c ?k; (case z => k_is); (case p1 => k_is); (case p2 => k_is); (case p3 => k_is); (case p4 => k_is); (case m => k_is); (case a => k_is); (case i => k_is); (case k0 => k_is); (case l => k_is); (case c => k_is); (case k => k_is)
    case r_lot_told =>
      refine' DL.raw_mk KX G ?a ?l ?c ?k; (case a => k_is); (case l => k_is); (case c => k_is); (case k => k_is)
    case r_law_jar =>
      refine' DL.raw_mk KX G ?a ?l ?c ?k; (case a => k_is); (case l => k_is); (case c => k_is); (case k => k_is)
    case r_law_dip =>
      refine' DL.raw_mk KX G ?a ?l ?c ?k; (case a => k_is); (case l => k_is); (case c => k_is); (case k => k_is)
    case r_law_pick =>
      refine' DL.raw_mk KX G ?a ?l ?c ?k; (case a => k_is); (case l => k_is); (case c => k_is); (case k => k_is)
    case r_law_some_list =>
      refine' DL.raw_mk KX G ?a ?l ?c ?k; (case a => k_is); (case l => k_is); (case c => k_is); (case k => k_is)
    case r_law_steps_of =>
      refine' DL.raw_mk KX G ?a ?l ?c ?k; (case a => k_is); (case l => k_is); (case c => k_is); (case k => k_is)
    case r_law_built =>
      refine' DL.raw_mk KX G ?a ?l ?c ?k; (case a => k_is); (case l => k_is); (case c => k_is); (case k => k_is)
    case r_law_shifted =>
      refine' DL.raw_mk KX G ?a ?l ?c ?k; (case a => k_is); (case l => k_is); (case c => k_is); (case k => k_is)
    case r_law_any_lot =>
      refine' DL.raw_mk KX G ?a ?l ?c ?k; (case a => k_is); (case l => k_is); (case c => k_is); (case k => k_is)
    case r_law_odd =>
      refine' DL.raw_mk KX G ?a ?l ?c ?k; (case a => k_is); (case l => k_is); (case c => k_is); (case k => k_is)
    case r_law_bases =>
      refine' DL.raw_mk KX G ?a ?l ?c ?k; (case a => k_is); (case l => k_is); (case c => k_is); (case k => k_is)
    case r_law_shown =>
      refine' DL.raw_mk KX G ?a ?l ?c ?k; (case a => k_is); (case l => k_is); (case c => k_is); (case k => k_is)
    case r_law_caught =>
      refine' DL.raw_mk KX G ?a ?l ?c ?k; (case a => k_is); (case l => k_is); (case c => k_is); (case k => k_is)
    case r_law_is_list =>
      refine' DL.raw_mk KX G ?a ?l ?c ?k; (case a => k_is); (case l => k_is); (case c => k_is); (case k => k_is)
    case r_law_lot_slip =>
      refine' DL.raw_mk KX G ?a ?l ?c ?k; (case a => k_is); (case l => k_is); (case c => k_is); (case k => k_is)
    case r_law_page =>
      refine' DL.raw_mk KX G ?a ?l ?c ?k; (case a => k_is); (case l => k_is); (case c => k_is); (case k => k_is)
    case r_law_number_in =>
      refine' DL.raw_mk KX G ?a ?l ?c ?k; (case a => k_is); (case l => k_is); (case c => k_is); (case k => k_is)
    case r_law_bent =>
      refine' DL.raw_mk KX G ?a ?l ?c ?k; (case a => k_is); (case l => k_is); (case c => k_is); (case k => k_is)
    case r_Lot_str =>
      refine' DL.rawm_mk KX G ?z ?p1 ?p2 ?p3 ?p4 ?a ?i ?l ?c ?k; (case z => k_is); (case p1 => k_is); (case p2 => k_is); (case p3 => k_is); (case p4 => k_is); (case a => k_is); (case i => k_is); (case l => k_is); (case c => k_is); (case k => k_is)
    case r_Lot_lists =>
      refine' DL.rawp_mk KX G ?z ?p1 ?p2 ?p3 ?p4 ?a ?g ?t ?rc ?l ?c ?k; (case z => k_is); (case p1 => k_is); (case p2 => k_is); (case p3 => k_is); (case p4 => k_is); (case a => k_is); (case g => k_is); (case t => k_is); (case rc => k_is); (case l => k_is); (case c => k_is); (case k => k_is)
    case r_Lot_read =>
      refine' DL.rawc_mk (mc := .type "type") KX G ?z ?rd ?ga ?a ?rc ?fi ?l ?c ?k; (case z => k_is); (case rd => k_is); (case ga => k_is); (case a => k_is); (case rc => k_is); (case fi => k_is); (case l => k_is); (case c => k_is); (case k => k_is)
    case r_law_right =>
      refine' DL.raw_mk KX G ?a ?l ?c ?k; (case a => k_is); (case l => k_is); (case c => k_is); (case k => k_is)
    case r_law =>
      refine' DL.raw_mk KX G ?a ?l ?c ?k; (case a => k_is); (case l => k_is); (case c => k_is); (case k => k_is)
