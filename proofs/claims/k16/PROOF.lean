import PyProof.Rows.All
import Wide.All
import OpenK.AllK
import Wide.FinOn
import HandS.ForMost
import HandS.IsInst
import HandS.Wide
import HandS.TupAny
import HandS.TupLe
import HandS.Exc
import HandS.WordsExc
import HandS.TupMul
import HandS.SortInts
import HandS.RaiseMore
import HandS.Deep
import PyProof.ReprRoads
import HandS.Style
import PyProof.ReprLen
import PyProof.Rows.StrIntSpec
import PySem.Challenge.RW_onesums_k16_whole_own_ladders_told_back
set_option Elab.async false
set_option linter.all false
set_option maxRecDepth 100000
/-! DL0: plain data over HandS: values D, worlds, states, lifted readings. -/
namespace DL
open PySem PySem.Spec L2

/-- plain data; rls: a list that is only read; jar: a list of three ints that anybody may change -/
inductive D where
  | non | bl (b : Bool) | int (i : Int) | str (s : Str)
  | tup (ds : List D) | lst (ds : List D) | rls (ds : List D)
  | dic (kvs : List (Key × D))
  | ins (C : Addr) (fs : List (Str × D))
  | jar | v (x : V)
  deriving Inhabited

/-- what a slot holds: data; or a list, a dict that this slot alone holds -/
inductive S where
  | d (x : D) | own (ds : List D) | odic (kvs : List (Key × D))
  deriving Inhabited
def S.isOwn : S → Bool
  | .d _ => false
  | _ => true
def S.frz : S → D
  | .own ds => .lst ds
  | .odic ds => .dic ds
  | .d x => x

/-- F: what never changes any more; J: the jars -/
structure Wd where
  F : Addr → Prop
  J : Addr → Prop
def Wd.add (W : Wd) (p : Addr) : Wd := ⟨fun a => W.F a ∨ a = p, W.J⟩
def Wd.addJ (W : Wd) (p : Addr) : Wd := ⟨W.F, fun a => W.J a ∨ a = p⟩

def SeqT (K : PySem.W.Frag) (W : Wd) (H : Hp) (a : Addr) (xs : List V) : Prop :=
  (W.F a ∧ Rd H a (.tup xs)) ∨
    ∃ (o : Obj) (its : Array Value) (n : Nat), K.lookup a = some o ∧ o.cls = .type "tuple" ∧ o.data = .seq its n ∧ its.size ≤ sizeLine ∧ Vals xs its.toList
def SeqL (K : PySem.W.Frag) (W : Wd) (H : Hp) (a : Addr) (xs : List V) : Prop :=
  (W.F a ∧ Rd H a (.lst xs)) ∨
    ∃ (o : Obj) (its : Array Value) (n : Nat), K.lookup a = some o ∧ o.cls = .type "list" ∧ o.dict = none ∧ o.data = .seq its n ∧ its.size ≤ sizeLine ∧ Vals xs its.toList
theorem SeqT.sq {K : PySem.W.Frag} {W : Wd} {H : Hp} {a : Addr} {xs : List V} (h : SeqT K W H a xs) : SqT K H a xs :=
  h.elim (fun q => .inl q.2) .inr
theorem SeqL.sq {K : PySem.W.Frag} {W : Wd} {H : Hp} {a : Addr} {xs : List V} (h : SeqL K W H a xs) : SqL K H a xs :=
  h.elim (fun q => .inl q.2) .inr

mutual
/-- the value x denotes d -/
inductive Dn (K : PySem.W.Frag) (W : Wd) (H : Hp) : D → V → Prop
  | non : Dn K W H .non .non
  | bl (b : Bool) : Dn K W H (.bl b) (.bl b)
  | int (i : Int) : Dn K W H (.int i) (.int i)
  | str (s : Str) : Dn K W H (.str s) (.str s)
  | tup {a : Addr} {ds : List D} {vs : List V} : SeqT K W H a vs → DnA K W H ds vs → Dn K W H (.tup ds) (.ref a)
  | lst {a : Addr} {ds : List D} {vs : List V} : W.F a → H a = some (.lst vs) → DnA K W H ds vs → Dn K W H (.lst ds) (.ref a)
  | rls {a : Addr} {ds : List D} {vs : List V} : SeqL K W H a vs → DnA K W H ds vs → Dn K W H (.rls ds) (.ref a)
  | dic {a : Addr} {ds : List (Key × D)} {vs : List (Key × V)} : W.F a → H a = some (.dK vs) → DnK K W H ds vs → Dn K W H (.dic ds) (.ref a)
  | ins {a C dx : Addr} {ds : List (Str × D)} {vs : List (Str × V)} : W.F a → H a = some (.ins C dx vs) → DnF K W H ds vs → Dn K W H (.ins C ds) (.ref a)
  | jar {a : Addr} : W.J a → Dn K W H .jar (.ref a)
  | v (x : V) : Dn K W H (.v x) x
inductive DnA (K : PySem.W.Frag) (W : Wd) (H : Hp) : List D → List V → Prop
  | nil : DnA K W H [] []
  | cons {d : D} {ds : List D} {x : V} {xs : List V} : Dn K W H d x → DnA K W H ds xs → DnA K W H (d :: ds) (x :: xs)
inductive DnK (K : PySem.W.Frag) (W : Wd) (H : Hp) : List (Key × D) → List (Key × V) → Prop
  | nil : DnK K W H [] []
  | cons {k : Key} {d : D} {ds : List (Key × D)} {x : V} {xs : List (Key × V)} : Dn K W H d x → DnK K W H ds xs → DnK K W H ((k, d) :: ds) ((k, x) :: xs)
inductive DnF (K : PySem.W.Frag) (W : Wd) (H : Hp) : List (Str × D) → List (Str × V) → Prop
  | nil : DnF K W H [] []
  | cons {k : Str} {d : D} {ds : List (Str × D)} {x : V} {xs : List (Str × V)} : Dn K W H d x → DnF K W H ds xs → DnF K W H ((k, d) :: ds) ((k, x) :: xs)
end

structure Le (W : Wd) (H : Hp) (W' : Wd) (H' : Hp) : Prop where
  F : ∀ a, W.F a → W'.F a
  J : ∀ a, W.J a → W'.J a
  k : ∀ a, W.F a → H' a = H a
theorem Le.refl (W : Wd) (H : Hp) : Le W H W H := ⟨fun _ h => h, fun _ h => h, fun _ _ => rfl⟩
theorem Le.trans {W1 W2 W3 : Wd} {H1 H2 H3 : Hp} (a : Le W1 H1 W2 H2) (b : Le W2 H2 W3 H3) : Le W1 H1 W3 H3 :=
  ⟨fun x h => b.F x (a.F x h), fun x h => b.J x (a.J x h), fun x h => (b.k x (a.F x h)).trans (a.k x h)⟩

section
variable {K : PySem.W.Frag} {W W' : Wd} {H H' : Hp}
theorem Rd.cong {a : Addr} {u : HO} (e : H' a = H a) (h : Rd H a u) : Rd H' a u := by
  unfold Rd at *
  rw [e]
  exact h
theorem SeqT.le (l : Le W H W' H') {a : Addr} {xs : List V} (h : SeqT K W H a xs) : SeqT K W' H' a xs :=
  h.elim (fun q => .inl ⟨l.F a q.1, Rd.cong (l.k a q.1) q.2⟩) .inr
theorem SeqL.le (l : Le W H W' H') {a : Addr} {xs : List V} (h : SeqL K W H a xs) : SeqL K W' H' a xs :=
  h.elim (fun q => .inl ⟨l.F a q.1, Rd.cong (l.k a q.1) q.2⟩) .inr
mutual
theorem Dn.le (l : Le W H W' H') : ∀ {d : D} {x : V}, Dn K W H d x → Dn K W' H' d x
  | _, _, .non => .non
  | _, _, .bl b => .bl b
  | _, _, .int b => .int b
  | _, _, .str b => .str b
  | _, _, .tup h1 h2 => .tup (h1.le l) (DnA.le l h2)
  | _, _, .lst h1 h2 h3 => .lst (l.F _ h1) ((l.k _ h1).trans h2) (DnA.le l h3)
  | _, _, .rls h1 h2 => .rls (h1.le l) (DnA.le l h2)
  | _, _, .dic h1 h2 h3 => .dic (l.F _ h1) ((l.k _ h1).trans h2) (DnK.le l h3)
  | _, _, .ins h1 h2 h3 => .ins (l.F _ h1) ((l.k _ h1).trans h2) (DnF.le l h3)
  | _, _, .jar h => .jar (l.J _ h)
  | _, _, .v x => .v x
theorem DnA.le (l : Le W H W' H') : ∀ {d : List D} {x : List V}, DnA K W H d x → DnA K W' H' d x
  | _, _, .nil => .nil
  | _, _, .cons h1 h2 => .cons (Dn.le l h1) (DnA.le l h2)
theorem DnK.le (l : Le W H W' H') : ∀ {d : List (Key × D)} {x : List (Key × V)}, DnK K W H d x → DnK K W' H' d x
  | _, _, .nil => .nil
  | _, _, .cons h1 h2 => .cons (Dn.le l h1) (DnK.le l h2)
theorem DnF.le (l : Le W H W' H') : ∀ {d : List (Str × D)} {x : List (Str × V)}, DnF K W H d x → DnF K W' H' d x
  | _, _, .nil => .nil
  | _, _, .cons h1 h2 => .cons (Dn.le l h1) (DnF.le l h2)
end
theorem DnA.length : ∀ {ds : List D} {xs : List V}, DnA K W H ds xs → ds.length = xs.length
  | _, _, .nil => rfl
  | _, _, .cons _ h => congrArg (· + 1) h.length
theorem DnA.get : ∀ {ds : List D} {xs : List V} {i : Nat} {d : D}, DnA K W H ds xs → ds[i]? = some d → ∃ x, xs[i]? = some x ∧ Dn K W H d x
  | _, _, 0, _, .cons h _, e => ⟨_, rfl, by cases e; exact h⟩
  | _, _, i + 1, _, .cons _ h, e => by
    obtain ⟨x, e1, e2⟩ := h.get (i := i) (by simpa using e)
    exact ⟨x, by simpa using e1, e2⟩
theorem DnA.get' : ∀ {ds : List D} {xs : List V} {i : Nat} {x : V}, DnA K W H ds xs → xs[i]? = some x → ∃ d, ds[i]? = some d ∧ Dn K W H d x
  | _, _, 0, _, .cons h _, e => ⟨_, rfl, by cases e; exact h⟩
  | _, _, i + 1, _, .cons _ h, e => by
    obtain ⟨x, e1, e2⟩ := h.get' (i := i) (by simpa using e)
    exact ⟨x, by simpa using e1, e2⟩
theorem DnA.append : ∀ {ds es : List D} {xs ys : List V}, DnA K W H ds xs → DnA K W H es ys → DnA K W H (ds ++ es) (xs ++ ys)
  | _, _, _, _, .nil, h => h
  | _, _, _, _, .cons h1 h2, h => .cons h1 (h2.append h)
theorem DnA.take : ∀ (n : Nat) {ds : List D} {xs : List V}, DnA K W H ds xs → DnA K W H (ds.take n) (xs.take n)
  | 0, _, _, _ => by simpa using DnA.nil
  | _ + 1, _, _, .nil => by simpa using DnA.nil
  | n + 1, _, _, .cons h1 h2 => .cons h1 (h2.take n)
theorem DnA.drop : ∀ (n : Nat) {ds : List D} {xs : List V}, DnA K W H ds xs → DnA K W H (ds.drop n) (xs.drop n)
  | 0, _, _, h => h
  | _ + 1, _, _, .nil => by simpa using DnA.nil
  | n + 1, _, _, .cons h1 h2 => h2.drop n
theorem DnA.set {d : D} {x : V} (h : Dn K W H d x) : ∀ {ds : List D} {xs : List V} (i : Nat), DnA K W H ds xs → DnA K W H (ds.set i d) (xs.set i x)
  | _, _, _, .nil => by simpa using DnA.nil
  | _, _, 0, .cons _ h2 => .cons h h2
  | _, _, i + 1, .cons h1 h2 => .cons h1 (h2.set h i)
theorem DnA.reverse {ds : List D} {xs : List V} (h : DnA K W H ds xs) : DnA K W H ds.reverse xs.reverse := by
  induction ds generalizing xs with
  | nil => cases h; exact .nil
  | cons d ds ih =>
    cases h with
    | cons h1 h2 =>
      rw [List.reverse_cons, List.reverse_cons]
      exact (ih h2).append (.cons h1 .nil)
theorem DnA.one {d : D} {xs : List V} (h : DnA K W H [d] xs) : ∃ x, xs = [x] ∧ Dn K W H d x := by
  cases h with
  | cons h1 h2 => cases h2; exact ⟨_, rfl, h1⟩
theorem DnA.map_int : ∀ {ns : List Int} {xs : List V}, DnA K W H (ns.map .int) xs → xs = ns.map .int
  | [], _, .nil => rfl
  | n :: ns, _, .cons h1 h2 => by cases h1; rw [h2.map_int]; rfl
theorem DnA.of_int : ∀ (ns : List Int), DnA K W H (ns.map .int) (ns.map .int)
  | [] => .nil
  | n :: ns => .cons (.int n) (DnA.of_int ns)
theorem DnA.map_bl : ∀ {ns : List Bool} {xs : List V}, DnA K W H (ns.map .bl) xs → xs = ns.map .bl
  | [], _, .nil => rfl
  | n :: ns, _, .cons h1 h2 => by cases h1; rw [h2.map_bl]; rfl
theorem DnA.map_str : ∀ {ns : List Str} {xs : List V}, DnA K W H (ns.map .str) xs → xs = ns.map .str
  | [], _, .nil => rfl
  | n :: ns, _, .cons h1 h2 => by cases h1; rw [h2.map_str]; rfl
theorem DnA.of_str : ∀ (ns : List Str), DnA K W H (ns.map .str) (ns.map .str)
  | [] => .nil
  | n :: ns => .cons (.str n) (DnA.of_str ns)
end

/-- the jars -/
def JarAt (H : Hp) (a : Addr) : Prop := ∃ x y z : Int, H a = some (.lst [.int x, .int y, .int z]) ∧ -(2 ^ 40) < y ∧ y < 2 ^ 40
structure Al (W : Wd) (H : Hp) : Prop where
  f : ∀ a, W.F a → ∃ o, H a = some o
  j : ∀ a, W.J a → JarAt H a
  d : ∀ a, W.J a → ¬ W.F a

/-- what an evaluation may do: freeze new things and own ones (ow), change own ones and jars -/
structure Step (ow : Addr → Prop) (W : Wd) (H : Hp) (W' : Wd) (H' : Hp) : Prop where
  le : Le W H W' H'
  nF : ∀ a, W'.F a → W.F a ∨ H a = none ∨ ow a
  nJ : ∀ a, W'.J a → W.J a ∨ H a = none
  st : ∀ a o, H a = some o → ¬ W.J a → ¬ ow a → H' a = some o
  up : ∀ a, H' a = none → H a = none
abbrev no1 : Addr → Prop := fun _ => False
theorem Step.refl (ow : Addr → Prop) (W : Wd) (H : Hp) : Step ow W H W H := ⟨.refl _ _, fun _ h => .inl h, fun _ h => .inl h, fun _ _ h _ _ => h, fun _ h => h⟩
theorem Step.trans {ow ow1 : Addr → Prop} {W1 W2 W3 : Wd} {H1 H2 H3 : Hp} (a : Step ow W1 H1 W2 H2) (b : Step ow1 W2 H2 W3 H3) (hs : ∀ x, ow1 x → ow x ∨ H1 x = none) : Step ow W1 H1 W3 H3 where
  le := a.le.trans b.le
  nF := fun x h => by
    rcases b.nF x h with q | q | q
    · exact a.nF x q
    · exact .inr (.inl (a.up x q))
    · rcases hs x q with z | z
      · exact .inr (.inr z)
      · exact .inr (.inl z)
  nJ := fun x h => by
    rcases b.nJ x h with q | q
    · exact a.nJ x q
    · exact .inr (a.up x q)
  st := fun x o h nj no => by
    refine b.st x o (a.st x o h nj no) (fun q => ?_) (fun q => ?_)
    · rcases a.nJ x q with z | z
      · exact nj z
      · rw [h] at z; cases z
    · rcases hs x q with z | z
      · exact no z
      · rw [h] at z; cases z
  up := fun x h => a.up x (b.up x h)

theorem Step.mono {ow ow' : Addr → Prop} {W W' : Wd} {H H' : Hp} (s : Step ow W H W' H') (h : ∀ x, ow x → ow' x) : Step ow' W H W' H' where
  le := s.le
  nF := fun a q => (s.nF a q).imp id (Or.imp id (h a))
  nJ := s.nJ
  st := fun a o e nj no => s.st a o e nj fun z => no (h a z)
  up := s.up
/-- a value that may be own -/
def Rs (K : PySem.W.Frag) (W : Wd) (H : Hp) : S → V → Prop
  | .own ds, x => ∃ p vs, x = .ref p ∧ H p = some (.lst vs) ∧ DnA K W H ds vs
  | .odic ds, x => ∃ p vs, x = .ref p ∧ H p = some (.dK vs) ∧ DnK K W H ds vs
  | .d d, x => Dn K W H d x
theorem Rs.ow {K : PySem.W.Frag} {W : Wd} {H : Hp} {d : S} {x : V} (h : Rs K W H d x) (n : d.isOwn = true) : ∃ p o, x = .ref p ∧ H p = some o := by
  cases d <;> first | (obtain ⟨p, vs, h1, h2, _⟩ := h; exact ⟨p, _, h1, h2⟩) | cases n
theorem Rs.le {K : PySem.W.Frag} {W W' : Wd} {H H' : Hp} (l : Le W H W' H') {d : S} {x : V} (h : Rs K W H d x) (ho : d.isOwn = true → ∀ p, x = .ref p → H' p = H p) : Rs K W' H' d x := by
  cases d with
  | own ds => obtain ⟨p, vs, h1, h2, h3⟩ := h; exact ⟨p, vs, h1, (ho rfl p h1).trans h2, h3.le l⟩
  | odic ds => obtain ⟨p, vs, h1, h2, h3⟩ := h; exact ⟨p, vs, h1, (ho rfl p h1).trans h2, h3.le l⟩
  | d x => exact Dn.le l h

/-- the slots, as data -/
abbrev Rho := List (Option S)
def Ow (ρ : Rho) (σ : L2.St) (a : Addr) : Prop := ∃ (i : Nat) (d : S), ρ[i]? = some (some d) ∧ d.isOwn = true ∧ σ[i]? = some (some (.ref a))
/-- the entry of a def -/
structure Gx where
  W : Wd
  H : Hp
structure Ok (K : PySem.W.Frag) (G : Gx) (W : Wd) (ρ : Rho) (σ : L2.St) (H : Hp) : Prop where
  len : σ.length = ρ.length
  val : ∀ (i : Nat) (d : S), ρ[i]? = some (some d) → ∃ x, σ[i]? = some (some x) ∧ Rs K W H d x
  frs : ∀ a, Ow ρ σ a → ¬ W.F a ∧ ¬ W.J a ∧ G.H a = none
  inj : ∀ (i j : Nat) (d e : S) (a : Addr), ρ[i]? = some (some d) → ρ[j]? = some (some e) → d.isOwn = true → e.isOwn = true → σ[i]? = some (some (.ref a)) → σ[j]? = some (some (.ref a)) → i = j
  al : Al W H
  en : Step no1 G.W G.H W H
/-- from one state of a frame to another, the slots' values as they were -/
structure Go (K : PySem.W.Frag) (G : Gx) (σ : L2.St) (ρ : Rho) (W : Wd) (H : Hp) (ρ' : Rho) (W' : Wd) (H' : Hp) : Prop where
  ok : Ok K G W' ρ' σ H'
  stp : Step (Ow ρ σ) W H W' H'
  sub : ∀ a, Ow ρ' σ a → Ow ρ σ a
section
variable {K : PySem.W.Frag} {G : Gx} {σ : L2.St} {ρ ρ1 ρ2 : Rho} {W W1 W2 : Wd} {H H1 H2 : Hp}
theorem Go.refl (ok : Ok K G W ρ σ H) : Go K G σ ρ W H ρ W H := ⟨ok, .refl _ _ _, fun _ h => h⟩
theorem Go.trans (a : Go K G σ ρ W H ρ1 W1 H1) (b : Go K G σ ρ1 W1 H1 ρ2 W2 H2) : Go K G σ ρ W H ρ2 W2 H2 :=
  ⟨b.ok, a.stp.trans b.stp fun x h => .inl (a.sub x h), fun x h => a.sub x (b.sub x h)⟩
theorem Ok.here (ok : Ok K G W ρ σ H) {a : Addr} (h : Ow ρ σ a) : ∃ o, H a = some o := by
  obtain ⟨i, d, h1, h2, h3⟩ := h
  obtain ⟨x, e, r⟩ := ok.val i d h1
  rw [h3] at e
  cases e
  obtain ⟨p, o, e1, e2⟩ := r.ow h2
  cases e1
  exact ⟨o, e2⟩
theorem Ok.upG (ok : Ok K G W ρ σ H) {a : Addr} (h : H a = none) : G.H a = none := ok.en.up a h
/-- the heap and the world grow, what is own stays: the same slots -/
theorem Ok.grow (ok : Ok K G W ρ σ H) (s : Step no1 W H W1 H1) (al : Al W1 H1) : Go K G σ ρ W H ρ W1 H1 := by
  have nf : ∀ a, Ow ρ σ a → ¬ W1.F a ∧ ¬ W1.J a ∧ H1 a = H a := fun a h => by
    obtain ⟨o, ho⟩ := ok.here h
    obtain ⟨f1, f2, f3⟩ := ok.frs a h
    refine ⟨fun q => ?_, fun q => ?_, ?_⟩
    · rcases s.nF a q with z | z | z
      · exact f1 z
      · rw [ho] at z; cases z
      · exact z.elim
    · rcases s.nJ a q with z | z
      · exact f2 z
      · rw [ho] at z; cases z
    · rw [ho]; exact s.st a o ho f2 fun z => z.elim
  refine ⟨⟨ok.len, fun i d h => ?_, fun a h => ⟨(nf a h).1, (nf a h).2.1, (ok.frs a h).2.2⟩, ok.inj, al, ok.en.trans s fun _ h => h.elim⟩, s.mono fun _ h => h.elim, fun _ h => h⟩
  obtain ⟨x, e, r⟩ := ok.val i d h
  exact ⟨x, e, r.le s.le fun ho p hp => (nf p ⟨i, d, h, ho, by rw [e, hp]⟩).2.2⟩
/-- a new object -/
theorem step_new {W : Wd} {H : Hp} {p : Addr} {o : HO} (al : Al W H) (h : H p = none) : Step no1 W H W (upd H p o) where
  le := ⟨fun _ h => h, fun _ h => h, fun a q => by
    obtain ⟨u, e⟩ := al.f a q
    exact upd_ne (ne_of_none e h)⟩
  nF := fun _ q => .inl q
  nJ := fun _ q => .inl q
  st := fun a u e _ _ => by rw [upd_ne (ne_of_none e h)]; exact e
  up := fun a e => by
    by_cases q : a = p
    · subst q; exact h
    · rw [upd_ne q] at e; exact e
theorem al_new {W : Wd} {H : Hp} {p : Addr} {o : HO} (al : Al W H) (h : H p = none) : Al W (upd H p o) where
  f := fun a q => by
    obtain ⟨u, e⟩ := al.f a q
    exact ⟨u, by rw [upd_ne (ne_of_none e h)]; exact e⟩
  j := fun a q => by
    obtain ⟨x, y, z, e, b⟩ := al.j a q
    exact ⟨x, y, z, by rw [upd_ne (ne_of_none e h)]; exact e, b⟩
  d := al.d
theorem step_frz {W : Wd} {H : Hp} {p : Addr} {o : HO} (al : Al W H) (h : H p = none) : Step no1 W H (W.add p) (upd H p o) where
  le := ⟨fun _ h => .inl h, fun _ h => h, (step_new al h).le.k⟩
  nF := fun a q => q.imp id fun e => .inl (by rw [e]; exact h)
  nJ := fun _ q => .inl q
  st := (step_new al h).st
  up := (step_new al h).up
theorem al_frz {W : Wd} {H : Hp} {p : Addr} {o : HO} (al : Al W H) (h : H p = none) : Al (W.add p) (upd H p o) where
  f := fun a q => q.elim ((al_new al h).f a) fun e => ⟨o, by rw [e]; exact upd_same⟩
  j := (al_new al h).j
  d := fun a q z => z.elim (al.d a q) fun e => by
    obtain ⟨x, y, z, e', _⟩ := al.j a q
    rw [e, h] at e'
    cases e'
/-- a value that has come behind H0 -/
structure Res (K : PySem.W.Frag) (H0 : Hp) (W : Wd) (H : Hp) (d : S) (x : V) : Prop where
  rs : Rs K W H d x
  fr : d.isOwn = true → ∀ p, x = .ref p → ¬ W.F p ∧ ¬ W.J p ∧ H0 p = none
theorem Res.of {K : PySem.W.Frag} {H0 : Hp} {W : Wd} {H : Hp} {d : D} {x : V} (h : Dn K W H d x) : Res K H0 W H (.d d) x :=
  ⟨h, fun o => by cases o⟩
theorem Go.freeze {K : PySem.W.Frag} {G : Gx} {σ : L2.St} {ρ ρ1 : Rho} {W W1 : Wd} {H H1 : Hp} {d : S} {x : V} (ok : Ok K G W ρ σ H) (g : Go K G σ ρ W H ρ1 W1 H1) (r : Res K H W1 H1 d x) :
    ∃ W2, Go K G σ ρ W H ρ1 W2 H1 ∧ Dn K W2 H1 d.frz x ∧ Le W1 H1 W2 H1 := by
  cases ho : d.isOwn with
  | false =>
    cases d <;> first | (cases ho; done) | exact ⟨W1, g, r.rs, .refl _ _⟩
  | true =>
    obtain ⟨p, o, rfl, hp⟩ := r.rs.ow ho
    obtain ⟨nf, nj, h0⟩ := r.fr ho p rfl
    have l : Le W1 H1 (W1.add p) H1 := ⟨fun _ h => .inl h, fun _ h => h, fun _ _ => rfl⟩
    have al : Al (W1.add p) H1 := ⟨fun a q => q.elim (g.ok.al.f a) fun e => ⟨o, by rw [e]; exact hp⟩, g.ok.al.j, fun a q z => z.elim (g.ok.al.d a q) fun e => nj (by rw [← e]; exact q)⟩
    refine ⟨W1.add p, ⟨⟨g.ok.len, fun i e h => ?_, fun a h => ?_, g.ok.inj, al, ?_⟩, ?_, g.sub⟩, ?_, l⟩
    · obtain ⟨y, e1, e2⟩ := g.ok.val i e h
      exact ⟨y, e1, e2.le l fun _ _ _ => rfl⟩
    · obtain ⟨a1, a2, a3⟩ := g.ok.frs a h
      refine ⟨fun z => z.elim a1 fun e => ?_, a2, a3⟩
      obtain ⟨u, hu⟩ := ok.here (g.sub a h)
      rw [e, h0] at hu
      cases hu
    · exact ⟨g.ok.en.le.trans l, fun a q => q.elim (g.ok.en.nF a) fun e => .inr (.inl (by rw [e]; exact ok.upG h0)), g.ok.en.nJ, g.ok.en.st, g.ok.en.up⟩
    · exact ⟨g.stp.le.trans l, fun a q => q.elim (g.stp.nF a) fun e => .inr (.inl (by rw [e]; exact h0)), g.stp.nJ, g.stp.st, g.stp.up⟩
    · cases d with
      | own ds =>
        obtain ⟨q, vs, e1, e2, e3⟩ := r.rs
        cases e1
        exact .lst (.inr rfl) e2 (e3.le l)
      | odic ds =>
        obtain ⟨q, vs, e1, e2, e3⟩ := r.rs
        cases e1
        exact .dic (.inr rfl) e2 (e3.le l)
      | _ => cases ho
end
/-- an exception as data: its class, its attributes -/
structure Exn where
  cls : Value
  fs : List (Str × D)
def ExAt (K : PySem.W.Frag) (W : Wd) (H : Hp) (x : Exn) (c : Value) (dx : Option Addr) : Prop :=
  c = x.cls ∧ ((dx = none ∧ x.fs = []) ∨ ∃ a vs, dx = some a ∧ H a = some (.xd vs) ∧ DnF K W H x.fs vs)
abbrev ZK := Exn → Rho → Prop
/-- readings over data -/
abbrev WE := ZK → Rho → (S → Rho → Prop) → Prop
abbrev WT := ZK → Rho → (Bool → Rho → Prop) → Prop
abbrev WA := ZK → Rho → (List D → Rho → Prop) → Prop
structure DEnds where
  nx : Rho → Prop
  rt : S → Prop
  bk : Rho → Prop
  ct : Rho → Prop
  ex : ZK
abbrev WS := DEnds → Rho → Prop
/-- a def over data -/
abbrev WF := (Exn → Prop) → List D → (S → Prop) → Prop
section
variable (K : PySem.W.Frag) (G : Gx) (T : WX)
def lZ (Z : ZK) (σ : L2.St) (ρ : Rho) (W : Wd) (H : Hp) : Prop := ∀ x ρ' W' H' c dx, Z x ρ' → Go K G σ ρ W H ρ' W' H' → ExAt K W' H' x c dx → T c dx σ H'
def lE (w : WE) : TE := fun σ H Q => ∃ (W : Wd) (ρ : Rho) (R : S → Rho → Prop) (Z : ZK), Ok K G W ρ σ H ∧ w Z ρ R ∧
  (∀ d ρ' W' x H', R d ρ' → Go K G σ ρ W H ρ' W' H' → Res K H W' H' d x → Q x H') ∧ lZ K G T Z σ ρ W H
def lT (w : WT) : TT := fun σ H Q => ∃ (W : Wd) (ρ : Rho) (R : Bool → Rho → Prop) (Z : ZK), Ok K G W ρ σ H ∧ w Z ρ R ∧
  (∀ b ρ' W' H', R b ρ' → Go K G σ ρ W H ρ' W' H' → Q b H') ∧ lZ K G T Z σ ρ W H
def lA (w : WA) : TA := fun σ H Q => ∃ (W : Wd) (ρ : Rho) (R : List D → Rho → Prop) (Z : ZK), Ok K G W ρ σ H ∧ w Z ρ R ∧
  (∀ ds ρ' W' xs H', R ds ρ' → Go K G σ ρ W H ρ' W' H' → DnA K W' H' ds xs → Q xs H') ∧ lZ K G T Z σ ρ W H
/-- a statement: the slots may change -/
def lX (Z : ZK) (W : Wd) (H : Hp) : Prop := ∀ x ρ' W' σ' H' c dx, Z x ρ' → Ok K G W' ρ' σ' H' → Le W H W' H' → ExAt K W' H' x c dx → T c dx σ' H'
def lN (N : Rho → Prop) (P : L2.St → Hp → Prop) (W : Wd) (H : Hp) : Prop := ∀ ρ' W' σ' H', N ρ' → Ok K G W' ρ' σ' H' → Le W H W' H' → P σ' H'
def lR (R : S → Prop) (Q : VK) (W : Wd) (H : Hp) : Prop := ∀ d ρ' W' σ' x H', R d → Ok K G W' ρ' σ' H' → Le W H W' H' → Res K G.H W' H' d x → Q x H'
def lS (w : WS) : TS := fun D σ H => ∃ (W : Wd) (ρ : Rho) (E : DEnds), Ok K G W ρ σ H ∧ w E ρ ∧
  lN K G E.nx D.nx W H ∧ lR K G E.rt D.rt W H ∧ lN K G E.bk D.bk W H ∧ lN K G E.ct D.ct W H ∧ lX K G T E.ex W H
end
section
variable {K : PySem.W.Frag} {G : Gx} {T : WX}
theorem lZ.go {Z : ZK} {σ : L2.St} {ρ ρ1 : Rho} {W W1 : Wd} {H H1 : Hp} (z : lZ K G T Z σ ρ W H) (g : Go K G σ ρ W H ρ1 W1 H1) : lZ K G T Z σ ρ1 W1 H1 :=
  fun x ρ' W' H' c dx h g' e => z x ρ' W' H' c dx h (g.trans g') e
theorem Res.up {H0 H1 : Hp} {W : Wd} {H : Hp} {d : S} {x : V} (r : Res K H1 W H d x) (u : ∀ a, H1 a = none → H0 a = none) : Res K H0 W H d x :=
  ⟨r.rs, fun o p e => let ⟨a, b, c⟩ := r.fr o p e; ⟨a, b, u p c⟩⟩
theorem lN.le {N : Rho → Prop} {P : L2.St → Hp → Prop} {W W1 : Wd} {H H1 : Hp} (h : lN K G N P W H) (l : Le W H W1 H1) : lN K G N P W1 H1 :=
  fun ρ' W' σ' H' n o q => h ρ' W' σ' H' n o (l.trans q)
theorem lR.le {R : S → Prop} {Q : VK} {W W1 : Wd} {H H1 : Hp} (h : lR K G R Q W H) (l : Le W H W1 H1) : lR K G R Q W1 H1 :=
  fun d ρ' W' σ' x H' n o q => h d ρ' W' σ' x H' n o (l.trans q)
theorem lX.le {Z : ZK} {W W1 : Wd} {H H1 : Hp} (h : lX K G T Z W H) (l : Le W H W1 H1) : lX K G T Z W1 H1 :=
  fun x ρ' W' σ' H' c dx n o q => h x ρ' W' σ' H' c dx n o (l.trans q)
theorem lX.z {Z : ZK} {W : Wd} {H : Hp} (h : lX K G T Z W H) (σ : L2.St) (ρ : Rho) : lZ K G T Z σ ρ W H :=
  fun x ρ' W' H' c dx n g e => h x ρ' W' σ H' c dx n g.ok g.stp.le e
end
/-! ### the judgements -/
def DE (X : Cx) (G : Gx) (T : WX) (e : Expr) (w : WE) : Prop := PE X e (lE X.K G T w)
def DT (X : Cx) (G : Gx) (T : WX) (e : Expr) (w : WT) : Prop := PT X e (lT X.K G T w)
def DA (X : Cx) (G : Gx) (T : WX) (es : List Expr) (w : WA) : Prop := PA X es (lA X.K G T w)
def DS (X : Cx) (G : Gx) (T : WX) (st : Stmt) (w : WS) : Prop := PS X st (lS X.K G T w)
def DSs (X : Cx) (G : Gx) (T : WX) (st : List Stmt) (w : WS) : Prop := PSs X st (lS X.K G T w)
theorem pe_weak {X : Cx} {e : Expr} {t t' : TE} (h : PE X e t) (i : ∀ σ H Q, t' σ H Q → t σ H Q) : PE X e t' := ⟨fun p s σ H Q I q => h.run p s σ H Q I (i σ H Q q)⟩
theorem pt_weak {X : Cx} {e : Expr} {t t' : TT} (h : PT X e t) (i : ∀ σ H Q, t' σ H Q → t σ H Q) : PT X e t' := ⟨fun p s σ H Q I q => h.run p s σ H Q I (i σ H Q q)⟩
theorem pw_weak {X : Cx} {e : Expr} {t t' : TT} (h : PW X e t) (i : ∀ σ H Q, t' σ H Q → t σ H Q) : PW X e t' := ⟨fun wh p s σ H Q I q => h.run wh p s σ H Q I (i σ H Q q)⟩
theorem pa_weak {X : Cx} {e : List Expr} {t t' : TA} (h : PA X e t) (i : ∀ σ H Q, t' σ H Q → t σ H Q) : PA X e t' := ⟨fun po p s σ H Q I q => h.run po p s σ H Q I (i σ H Q q)⟩
theorem ps_weak {X : Cx} {e : Stmt} {t t' : TS} (h : PS X e t) (i : ∀ D σ H, t' D σ H → t D σ H) : PS X e t' := ⟨fun p s σ H D I q => h.run p s σ H D I (i D σ H q)⟩
theorem pss_weak {X : Cx} {e : List Stmt} {t t' : TS} (h : PSs X e t) (i : ∀ D σ H, t' D σ H → t D σ H) : PSs X e t' := ⟨fun p s σ H D I q => h.run p s σ H D I (i D σ H q)⟩
end DL

/-! DL1: rules for expressions and tests. -/
namespace DL
open PySem PySem.Spec L2
section
variable {K : PySem.W.Frag} {G : Gx} {T : WX} {σ : L2.St} {ρ ρ1 : Rho} {W W1 : Wd} {H H1 : Hp}
/-! ### slots -/
theorem set_get {α : Type} {l : List α} {i j : Nat} {a b : α} (h : (l.set i a)[j]? = some b) : (i = j ∧ a = b) ∨ (i ≠ j ∧ l[j]? = some b) := by
  rw [List.getElem?_set] at h
  split at h
  · split at h
    · cases h; exact .inl ⟨‹_›, rfl⟩
    · cases h
  · exact .inr ⟨‹_›, h⟩
/-- slot i, own so far, is frozen -/
theorem Ok.freezeSlot (ok : Ok K G W ρ σ H) {i : Nat} {d : S} (h : ρ[i]? = some (some d)) : ∃ x W2, σ[i]? = some (some x) ∧ Go K G σ ρ W H (if d.isOwn = true then ρ.set i (some (.d d.frz)) else ρ) W2 H ∧ Dn K W2 H d.frz x := by
  obtain ⟨x, e, r⟩ := ok.val i d h
  cases ho : d.isOwn with
  | false =>
    cases d <;> first | (cases ho; done) | exact ⟨x, W, e, .refl ok, r⟩
  | true =>
    obtain ⟨p, o, rfl, hp⟩ := r.ow ho
    have hO : Ow ρ σ p := ⟨i, d, h, ho, e⟩
    obtain ⟨nf, nj, h0⟩ := ok.frs p hO
    have l : Le W H (W.add p) H := ⟨fun _ h => .inl h, fun _ h => h, fun _ _ => rfl⟩
    have al : Al (W.add p) H := ⟨fun a q => q.elim (ok.al.f a) fun e => ⟨o, by rw [e]; exact hp⟩, ok.al.j, fun a q z => z.elim (ok.al.d a q) fun e => nj (by rw [← e]; exact q)⟩
    have hd : Dn K (W.add p) H d.frz (.ref p) := by
      cases d with
      | own ds =>
        obtain ⟨q, vs, e1, e2, e3⟩ := r
        cases e1
        exact .lst (.inr rfl) e2 (e3.le l)
      | odic ds =>
        obtain ⟨q, vs, e1, e2, e3⟩ := r
        cases e1
        exact .dic (.inr rfl) e2 (e3.le l)
      | _ => cases ho
    have sub : ∀ a, Ow (ρ.set i (some (.d d.frz))) σ a → Ow ρ σ a ∧ a ≠ p := fun a ⟨j, f, f1, f2, f3⟩ => by
      rcases set_get f1 with ⟨z1, z2⟩ | ⟨z1, z2⟩
      · cases z2; cases f2
      · refine ⟨⟨j, f, z2, f2, f3⟩, fun q => ?_⟩
        subst q
        exact z1 (ok.inj i j d f a h z2 ho f2 e f3)
    refine ⟨.ref p, W.add p, e, ?_, hd⟩
    rw [if_pos rfl]
    refine ⟨⟨by rw [ok.len, List.length_set], fun j f hj => ?_, fun a hA => ?_, fun a b f f' c h1 h2 o1 o2 => ?_, al, ?_⟩, ?_, fun a h => (sub a h).1⟩
    · rcases set_get hj with ⟨z1, z2⟩ | ⟨z1, z2⟩
      · cases z2; subst z1; exact ⟨_, e, hd⟩
      · obtain ⟨y, e1, e2⟩ := ok.val j f z2
        exact ⟨y, e1, e2.le l fun _ _ _ => rfl⟩
    · obtain ⟨hA, hne⟩ := sub a hA
      obtain ⟨a1, a2, a3⟩ := ok.frs a hA
      exact ⟨fun z => z.elim a1 hne, a2, a3⟩
    · rcases set_get h1 with ⟨z1, z2⟩ | ⟨z1, z2⟩
      · cases z2; cases o1
      · rcases set_get h2 with ⟨y1, y2⟩ | ⟨y1, y2⟩
        · cases y2; cases o2
        · exact ok.inj a b f f' c z2 y2 o1 o2
    · exact ⟨ok.en.le.trans l, fun a q => q.elim (ok.en.nF a) fun e => .inr (.inl (by rw [e]; exact h0)), ok.en.nJ, ok.en.st, ok.en.up⟩
    · exact ⟨l, fun a q => q.elim .inl fun e => .inr (.inr (by rw [e]; exact hO)), fun _ q => .inl q, fun _ _ e _ _ => e, fun _ e => e⟩
def wVar (i : Nat) : WE := fun _ ρ R => match ρ[i]? with
  | some (some d) => R (.d d.frz) (if d.isOwn = true then ρ.set i (some (.d d.frz)) else ρ)
  | _ => False
theorem lE_var {i : Nat} {Q : VK} (h : lE K G T (wVar i) σ H Q) : tVar i σ H Q := by
  obtain ⟨W, ρ, R, Z, ok, h, hR, _⟩ := h
  unfold wVar at h
  split at h
  · rename_i d e
    obtain ⟨x, W2, e1, g, hd⟩ := ok.freezeSlot e
    exact ⟨x, e1, hR _ _ W2 x H h g (.of hd)⟩
  · exact h.elim
end
section
variable {X : Cx} {G : Gx} {T : WX} {e a b c : Expr} {w wa wb wc : WE} {pos p : Pos}
theorem de_var (i : Nat) {x : Str} (hN : X.N[i]? = some x := by rfl) (hv : Vis X.env.scope x := by first | exact Or.inl rfl | exact Or.inr (Or.inl rfl) | exact Or.inr (Or.inr rfl)) (hd : (x == ("__debug__" : Str)) = false := by decide)
    (hcd : (x == ("__classdict__" : Str)) = false := by decide) : DE X G T (.Name x pos) (wVar i) :=
  pe_weak (pv i hN hv hd hcd) fun σ H Q h => lE_var h
def wC (d : D) : WE := fun _ ρ R => R (.d d) ρ
theorem de_const {d : D} {x : V} (h : PE X e (tC x)) (hd : ∀ W H, Dn X.K W H d x) : DE X G T e (wC d) :=
  pe_weak h fun σ H Q ⟨W, ρ, R, Z, ok, h, hR, _⟩ => hR _ _ W x H h (.refl ok) (.of (hd W H))
theorem de_int {i j} : DE X G T (.Constant (.int i) j pos) (wC (.int i)) := de_const pe_int fun _ _ => .int i
theorem de_bl {i j} : DE X G T (.Constant (.bool i) j pos) (wC (.bl i)) := de_const pe_bl fun _ _ => .bl i
theorem de_non {j} : DE X G T (.Constant .none j pos) (wC .non) := de_const pe_non fun _ _ => .non
theorem de_str {i j} : DE X G T (.Constant (.str i) j pos) (wC (.str i)) := de_const pe_str fun _ _ => .str i
/-- an int, a text or a bool of the module's top -/
theorem de_gint {x : Str} {i : Int} {t : Tok} (hg : Gl X x) (hm : X.mg x = some (.int i t)) (hd : (x == ("__debug__" : Str)) = false := by decide) : DE X G T (.Name x pos) (wC (.int i)) :=
  de_const (pe_glob (v := .int i) hg hm ⟨t, rfl⟩ hd) fun _ _ => .int i
theorem de_gstr {x : Str} {i : Str} {t : Tok} (hg : Gl X x) (hm : X.mg x = some (.str i t)) (hd : (x == ("__debug__" : Str)) = false := by decide) : DE X G T (.Name x pos) (wC (.str i)) :=
  de_const (pe_glob (v := .str i) hg hm ⟨t, rfl⟩ hd) fun _ _ => .str i
theorem de_gref {x : Str} {a : Addr} (hg : Gl X x) (hm : X.mg x = some (.ref a)) (hd : (x == ("__debug__" : Str)) = false := by decide) : DE X G T (.Name x pos) (wC (.v (.ref a))) :=
  de_const (pe_glob (v := .ref a) hg hm rfl hd) fun _ _ => .v _
/-- a builtin class -/
theorem de_bty {x : Str} {n : String} (hg : Gl X x) (hm : X.mg x = none) (hv : bootBuiltins x = some (.type n)) (hn : x ≠ "__name__" := by decide) (hd : (x == ("__debug__" : Str)) = false := by decide) : DE X G T (.Name x pos) (wC (.v (.ty n))) :=
  de_const (pe_bltn (v := .ty n) hg hm hv rfl hn hd) fun _ _ => .v _

/-! ### two expressions -/
def wBin (f : D → D → (S → Prop) → Prop) (wa wb : WE) : WE := fun Z ρ R => wa Z ρ fun x ρ1 => wb Z ρ1 fun y ρ2 => f x.frz y.frz fun z => R z ρ2
/-- an operation on values, over data -/
def OpD (K : PySem.W.Frag) (r : R2) (f : D → D → (S → Prop) → Prop) : Prop :=
  ∀ (G : Gx) (W : Wd) (ρ : Rho) (σ : L2.St) (H : Hp) (d e : D) (x y : V) (R : S → Prop) (Q : VK), Ok K G W ρ σ H → Dn K W H d x → Dn K W H e y → f d e R →
    (∀ z W' v H', R z → Go K G σ ρ W H ρ W' H' → Res K H W' H' z v → Q v H') → r x y H Q
/-- evaluate a, freeze -/
theorem lE_then {K : PySem.W.Frag} {σ : L2.St} {ρ : Rho} {W : Wd} {H : Hp} {wa : WE} {Z : ZK} {R : D → Rho → Prop} {Q : VK} (ok : Ok K G W ρ σ H) (h : wa Z ρ fun x ρ1 => R x.frz ρ1) (hZ : lZ K G T Z σ ρ W H)
    (hq : ∀ d ρ1 W1 x H1, R d ρ1 → Go K G σ ρ W H ρ1 W1 H1 → Dn K W1 H1 d x → Q x H1) : lE K G T wa σ H Q :=
  ⟨W, ρ, _, Z, ok, h, fun d ρ1 W1 x H1 hr g r => by
    obtain ⟨W2, g2, hd, l⟩ := g.freeze ok r
    exact hq _ _ _ _ _ hr g2 hd, hZ⟩
theorem lE_bin {r : R2} {f : D → D → (S → Prop) → Prop} (ho : OpD X.K r f) {σ : L2.St} {H : Hp} {Q : VK} (h : lE X.K G T (wBin f wa wb) σ H Q) : tOp r (lE X.K G T wa) (lE X.K G T wb) σ H Q := by
  obtain ⟨W, ρ, R, Z, ok, h, hR, hZ⟩ := h
  refine lE_then (R := fun x ρ1 => wb Z ρ1 fun y ρ2 => f x y.frz fun z => R z ρ2) ok h hZ fun d ρ1 W1 x H1 h1 g1 d1 => ?_
  refine lE_then (R := fun y ρ2 => f d y fun z => R z ρ2) g1.ok h1 (hZ.go g1) fun e ρ2 W2 y H2 h2 g2 d2 => ?_
  refine ho G W2 ρ2 σ H2 d e x y _ Q g2.ok (d1.le g2.stp.le) d2 h2 fun z W' v H' hz g3 r3 => ?_
  exact hR z ρ2 W' v H' hz ((g1.trans g2).trans g3) (r3.up fun a q => (g1.trans g2).stp.up a q)
theorem de_op {op : Operator} {r : R2} {f : D → D → (S → Prop) → Prop} (hr : OpR X (binaryOp op) r) (ho : OpD X.K r f) (ha : DE X G T a wa) (hb : DE X G T b wb) : DE X G T (.BinOp a op b pos) (wBin f wa wb) :=
  pe_weak (pe_op hr ha hb) fun _ _ _ h => lE_bin ho h
theorem de_cmp {op : CmpOp} {r : R2} {f : D → D → (S → Prop) → Prop} (hr : OpR X (compareOp op) r) (ho : OpD X.K r f) (ha : DE X G T a wa) (hb : DE X G T b wb) (hm : behindInMarks op b = false) : DE X G T (.Compare a [op] [b] pos) (wBin f wa wb) :=
  pe_weak (pe_cmpR hr ha hb hm) fun _ _ _ h => lE_bin ho h
/-! ### tests -/
def S.isB (d : S) (R : Bool → Prop) : Prop := match d with
  | .d (.bl b) => R b
  | _ => False
theorem S.isB_of {d : S} {R : Bool → Prop} (h : d.isB R) : ∃ b, d = .d (.bl b) ∧ R b := by
  unfold S.isB at h
  split at h
  · exact ⟨_, rfl, h⟩
  · exact h.elim
def wB (w : WE) : WT := fun Z ρ R => w Z ρ fun d ρ' => d.isB fun b => R b ρ'
theorem lT_B {K : PySem.W.Frag} {σ : L2.St} {H : Hp} {Q : Bool → Hp → Prop} {t : TE} (ht : ∀ Q, lE K G T w σ H Q → t σ H Q) (h : lT K G T (wB w) σ H Q) : tTest t σ H Q := by
  obtain ⟨W, ρ, R, Z, ok, h, hR, hZ⟩ := h
  refine ht _ ⟨W, ρ, _, Z, ok, h, fun d ρ' W' x H' hb g r => ?_, hZ⟩
  obtain ⟨k, rfl, hb⟩ := S.isB_of hb
  have q : Dn K W' H' (.bl k) x := r.rs
  cases q
  exact ⟨k, rfl, hR _ _ _ _ hb g⟩
theorem dt_val (h : DE X G T e w) (he : ∀ whole, isTrue e X.env whole = (do let v ← whole; standAt e.pos; holding [v] (truthy v)) := by intro _; rfl) : DT X G T e (wB w) :=
  pt_weak (pt_val h he) fun _ _ _ h => lT_B (fun _ q => q) h
theorem dt_cmp {op : CmpOp} {r : R2} {f : D → D → (S → Prop) → Prop} (hr : OpR X (compareOp op) r) (ho : OpD X.K r f) (ha : DE X G T a wa) (hb : DE X G T b wb) (hm : behindInMarks op b = false) : DT X G T (.Compare a [op] [b] pos) (wB (wBin f wa wb)) :=
  pt_weak (pt_cmpR hr ha hb hm) fun _ _ _ h => lT_B (fun _ q => lE_bin ho q) h
/-- a op b op' c -/
def wChain (f f' : D → D → (S → Prop) → Prop) (wa wb wc : WE) : WE := fun Z ρ R => wa Z ρ fun x ρ1 => wb Z ρ1 fun y ρ2 => f x.frz y.frz fun z => z.isB fun k =>
  if k = true then wc Z ρ2 fun u ρ3 => f' y.frz u.frz fun z => R z ρ3 else R (.d (.bl false)) ρ2
theorem lE_chain {r r' : R2} {f f' : D → D → (S → Prop) → Prop} (ho : OpD X.K r f) (ho' : OpD X.K r' f') {σ : L2.St} {H : Hp} {Q : VK} (h : lE X.K G T (wChain f f' wa wb wc) σ H Q) : tChain r r' (lE X.K G T wa) (lE X.K G T wb) (lE X.K G T wc) σ H Q := by
  obtain ⟨W, ρ, R, Z, ok, h, hR, hZ⟩ := h
  refine lE_then (R := fun x ρ1 => wb Z ρ1 fun y ρ2 => f x y.frz fun z => z.isB fun k => if k = true then wc Z ρ2 fun u ρ3 => f' y.frz u.frz fun z => R z ρ3 else R (.d (.bl false)) ρ2) ok h hZ fun d ρ1 W1 x H1 h1 g1 d1 => ?_
  refine lE_then (R := fun y ρ2 => f d y fun z => z.isB fun k => if k = true then wc Z ρ2 fun u ρ3 => f' y u.frz fun z => R z ρ3 else R (.d (.bl false)) ρ2) g1.ok h1 (hZ.go g1) fun e ρ2 W2 y H2 h2 g2 d2 => ?_
  have g12 := g1.trans g2
  refine ho G W2 ρ2 σ H2 d e x y _ _ g2.ok (d1.le g2.stp.le) d2 h2 fun z W' v H' hz g3 r3 => ?_
  obtain ⟨k, rfl, hz⟩ := S.isB_of hz
  have q : Dn X.K W' H' (.bl k) v := r3.rs
  cases q
  have g13 := g12.trans g3
  refine ⟨k, rfl, ?_⟩
  cases k with
  | false => exact hR _ _ _ _ _ hz g13 (.of (.bl false))
  | true =>
    simp only [if_true] at hz ⊢
    refine lE_then (R := fun u ρ3 => f' e u fun z => R z ρ3) g3.ok hz (hZ.go g13) fun u ρ3 W3 y3 H3 h3 g4 d3 => ?_
    refine ho' G W3 ρ3 σ H3 e u y y3 _ Q g4.ok ((d2.le g3.stp.le).le g4.stp.le) d3 h3 fun z W5 v5 H5 hz5 g5 r5 => ?_
    exact hR z ρ3 W5 v5 H5 hz5 ((g13.trans g4).trans g5) (r5.up fun a q => (g13.trans g4).stp.up a q)
theorem de_chain {op op' : CmpOp} {r r' : R2} {f f' : D → D → (S → Prop) → Prop} (hr : OpR X (compareOp op) r) (hr' : OpR X (compareOp op') r') (ho : OpD X.K r f) (ho' : OpD X.K r' f') (ha : DE X G T a wa) (hb : DE X G T b wb) (hc : DE X G T c wc)
    (hm : lastMarks [op, op'] [b, c] = false := by with_unfolding_all rfl) : DE X G T (.Compare a [op, op'] [b, c] pos) (wChain f f' wa wb wc) :=
  pe_weak (pe_chain hr hr' ha hb hc hm) fun _ _ _ h => lE_chain ho ho' h
theorem dt_chain {op op' : CmpOp} {r r' : R2} {f f' : D → D → (S → Prop) → Prop} (hr : OpR X (compareOp op) r) (hr' : OpR X (compareOp op') r') (ho : OpD X.K r f) (ho' : OpD X.K r' f') (ha : DE X G T a wa) (hb : DE X G T b wb) (hc : DE X G T c wc)
    (hm : lastMarks [op, op'] [b, c] = false := by with_unfolding_all rfl) : DT X G T (.Compare a [op, op'] [b, c] pos) (wB (wChain f f' wa wb wc)) :=
  pt_weak (pt_chain hr hr' ha hb hc hm) fun _ _ _ h => lT_B (fun _ q => lE_chain ho ho' q) h
/-! ### and, or, not -/
def DW (X : Cx) (G : Gx) (T : WX) (e : Expr) (w : WT) : Prop := PW X e (lT X.K G T w)
variable {t u v' : WT} {rest : List Expr}
def wAnd (t u : WT) : WT := fun Z ρ R => t Z ρ fun c ρ1 => if c = true then u Z ρ1 R else R false ρ1
def wOr (t u : WT) : WT := fun Z ρ R => t Z ρ fun c ρ1 => if c = true then R true ρ1 else u Z ρ1 R
def wNot (t : WT) : WT := fun Z ρ R => t Z ρ fun c ρ1 => R (!c) ρ1
theorem DW.pt (h : DW X G T e t) : DT X G T e t := PW.pt h
theorem dw_and1 (h : DT X G T a t) : DW X G T (.BoolOp .And [a] pos) t := pw_and1 h
theorem dw_or1 (h : DT X G T a t) : DW X G T (.BoolOp .Or [a] pos) t := pw_or1 h
theorem lT_then {K : PySem.W.Frag} {σ : L2.St} {ρ : Rho} {W : Wd} {H : Hp} {Z : ZK} {R : Bool → Rho → Prop} {Q : Bool → Hp → Prop} (ok : Ok K G W ρ σ H) (h : t Z ρ R) (hZ : lZ K G T Z σ ρ W H)
    (hq : ∀ d ρ1 W1 H1, R d ρ1 → Go K G σ ρ W H ρ1 W1 H1 → Q d H1) : lT K G T t σ H Q := ⟨W, ρ, R, Z, ok, h, hq, hZ⟩
theorem dw_and (ha : DT X G T a t) (hb : DW X G T (.BoolOp .And (b :: rest) pos) u) : DW X G T (.BoolOp .And (a :: b :: rest) pos) (wAnd t u) :=
  pw_weak (pw_and ha hb) fun σ H Q ⟨W, ρ, R, Z, ok, h, hR, hZ⟩ => lT_then ok h hZ fun c ρ1 W1 H1 hc g => by
    cases c with
    | true => exact ⟨W1, ρ1, R, Z, g.ok, hc, fun b ρ2 W2 H2 h2 g2 => hR b ρ2 W2 H2 h2 (g.trans g2), hZ.go g⟩
    | false => exact hR _ _ _ _ hc g
theorem dw_or (ha : DT X G T a t) (hb : DW X G T (.BoolOp .Or (b :: rest) pos) u) : DW X G T (.BoolOp .Or (a :: b :: rest) pos) (wOr t u) :=
  pw_weak (pw_or ha hb) fun σ H Q ⟨W, ρ, R, Z, ok, h, hR, hZ⟩ => lT_then ok h hZ fun c ρ1 W1 H1 hc g => by
    cases c with
    | false => exact ⟨W1, ρ1, R, Z, g.ok, hc, fun b ρ2 W2 H2 h2 g2 => hR b ρ2 W2 H2 h2 (g.trans g2), hZ.go g⟩
    | true => exact hR _ _ _ _ hc g
theorem dt_not (ha : DT X G T a t) : DT X G T (.UnaryOp .Not a pos) (wNot t) :=
  pt_weak (pt_not ha) fun σ H Q ⟨W, ρ, R, Z, ok, h, hR, hZ⟩ => lT_then ok h hZ fun c ρ1 W1 H1 hc g => hR _ _ _ _ hc g
/-- .. as values -/
def wAndV (wa wb : WE) : WE := fun Z ρ R => wa Z ρ fun x ρ1 => x.isB fun c => if c = true then wb Z ρ1 R else R (.d (.bl false)) ρ1
def wOrV (wa wb : WE) : WE := fun Z ρ R => wa Z ρ fun x ρ1 => x.isB fun c => if c = true then R (.d (.bl true)) ρ1 else wb Z ρ1 R
def wNotV (wa : WE) : WE := fun Z ρ R => wa Z ρ fun x ρ1 => x.isB fun c => R (.d (.bl (!c))) ρ1
theorem de_one {op} (h : DE X G T a wa) : DE X G T (.BoolOp op [a] pos) wa := pe_one h
theorem lE_bl {K : PySem.W.Frag} {σ : L2.St} {ρ : Rho} {W : Wd} {H : Hp} {Z : ZK} {R : Bool → Rho → Prop} {Q : Bool → Hp → Prop} (ok : Ok K G W ρ σ H) (h : wa Z ρ fun x ρ1 => x.isB fun c => R c ρ1) (hZ : lZ K G T Z σ ρ W H)
    (hq : ∀ c ρ1 W1 H1, R c ρ1 → Go K G σ ρ W H ρ1 W1 H1 → Q c H1) : lE K G T wa σ H fun x H1 => ∃ c, x = .bl c ∧ Q c H1 :=
  ⟨W, ρ, _, Z, ok, h, fun d ρ1 W1 x H1 hr g r => by
    obtain ⟨k, rfl, hr⟩ := S.isB_of hr
    have q : Dn K W1 H1 (.bl k) x := r.rs
    cases q
    exact ⟨k, rfl, hq _ _ _ _ hr g⟩, hZ⟩
theorem lE_on {K : PySem.W.Frag} {σ : L2.St} {ρ ρ1 : Rho} {W W1 : Wd} {H H1 : Hp} {Z : ZK} {R : S → Rho → Prop} {Q : VK} (g : Go K G σ ρ W H ρ1 W1 H1) (h : w Z ρ1 R) (hR : ∀ d ρ' W' x H', R d ρ' → Go K G σ ρ W H ρ' W' H' → Res K H W' H' d x → Q x H')
    (hZ : lZ K G T Z σ ρ W H) : lE K G T w σ H1 Q :=
  ⟨W1, ρ1, R, Z, g.ok, h, fun d ρ2 W2 x H2 h2 g2 r => hR d ρ2 W2 x H2 h2 (g.trans g2) (r.up g.stp.up), hZ.go g⟩
theorem de_and (ha : DE X G T a wa) (hb : DE X G T (.BoolOp .And (b :: rest) pos) wb) : DE X G T (.BoolOp .And (a :: b :: rest) pos) (wAndV wa wb) :=
  pe_weak (pe_and ha hb) fun σ H Q ⟨W, ρ, R, Z, ok, h, hR, hZ⟩ => lE_bl ok h hZ fun c ρ1 W1 H1 hc g => by
    cases c with
    | true => exact lE_on g hc hR hZ
    | false => exact hR _ _ _ _ _ hc g (.of (.bl false))
theorem de_or (ha : DE X G T a wa) (hb : DE X G T (.BoolOp .Or (b :: rest) pos) wb) : DE X G T (.BoolOp .Or (a :: b :: rest) pos) (wOrV wa wb) :=
  pe_weak (pe_or ha hb) fun σ H Q ⟨W, ρ, R, Z, ok, h, hR, hZ⟩ => lE_bl ok h hZ fun c ρ1 W1 H1 hc g => by
    cases c with
    | false => exact lE_on g hc hR hZ
    | true => exact hR _ _ _ _ _ hc g (.of (.bl true))
theorem de_not (ha : DE X G T a wa) : DE X G T (.UnaryOp .Not a pos) (wNotV wa) :=
  pe_weak (pe_not ha) fun σ H Q ⟨W, ρ, R, Z, ok, h, hR, hZ⟩ => lE_bl ok h hZ fun c ρ1 W1 H1 hc g => hR _ _ _ _ _ hc g (.of (.bl _))
/-- a if t else b -/
def wIfE (t : WT) (wa wb : WE) : WE := fun Z ρ R => t Z ρ fun c ρ1 => if c = true then wa Z ρ1 R else wb Z ρ1 R
theorem de_if {c : Expr} (hc : DT X G T c t) (ha : DE X G T a wa) (hb : DE X G T b wb) : DE X G T (.IfExp c a b pos) (wIfE t wa wb) :=
  pe_weak (pe_ifExp hc ha hb) fun σ H Q ⟨W, ρ, R, Z, ok, h, hR, hZ⟩ => lT_then ok h hZ fun c ρ1 W1 H1 hc g => by
    cases c with
    | true => exact lE_on g hc hR hZ
    | false => exact lE_on g hc hR hZ
/-- one operand -/
def wUn (f : D → (S → Prop) → Prop) (wa : WE) : WE := fun Z ρ R => wa Z ρ fun x ρ1 => f x.frz fun z => R z ρ1
def UnD (K : PySem.W.Frag) (r : V → Hp → VK → Prop) (f : D → (S → Prop) → Prop) : Prop :=
  ∀ (G : Gx) (W : Wd) (ρ : Rho) (σ : L2.St) (H : Hp) (d : D) (x : V) (R : S → Prop) (Q : VK), Ok K G W ρ σ H → Dn K W H d x → f d R →
    (∀ z W' v H', R z → Go K G σ ρ W H ρ W' H' → Res K H W' H' z v → Q v H') → r x H Q
theorem lE_un {K : PySem.W.Frag} {r : V → Hp → VK → Prop} {f : D → (S → Prop) → Prop} (ho : UnD K r f) {σ : L2.St} {H : Hp} {Q : VK} (h : lE K G T (wUn f wa) σ H Q) : lE K G T wa σ H fun x H1 => r x H1 Q := by
  obtain ⟨W, ρ, R, Z, ok, h, hR, hZ⟩ := h
  refine lE_then (R := fun x ρ1 => f x fun z => R z ρ1) ok h hZ fun d ρ1 W1 x H1 h1 g1 d1 => ?_
  exact ho G W1 ρ1 σ H1 d x _ Q g1.ok d1 h1 fun z W' v H' hz g r => hR z ρ1 W' v H' hz (g1.trans g) (r.up g1.stp.up)
def fNeg (d : D) (R : S → Prop) : Prop := match d with
  | .int i => R (.d (.int (-i)))
  | _ => False
theorem ud_neg {K : PySem.W.Frag} : UnD K (rU fun i => .int (-i)) fNeg := by
  intro G W ρ σ H d x R Q ok h f k
  cases h <;> first | exact f.elim | skip
  exact ⟨_, rfl, k _ _ _ _ f (.refl ok) (.of (.int _))⟩
theorem de_neg (ha : DE X G T a wa) : DE X G T (.UnaryOp .USub a pos) (wUn fNeg wa) :=
  pe_weak (pe_un un_neg ha) fun _ _ _ h => lE_un ud_neg h
/-! ### argument lists, displays -/
def wNil : WA := fun _ ρ R => R [] ρ
def wCons (w : WE) (u : WA) : WA := fun Z ρ R => w Z ρ fun x ρ1 => u Z ρ1 fun xs ρ2 => R (x.frz :: xs) ρ2
theorem da_nil : DA X G T [] wNil := pa_weak pa_nil fun σ H Q ⟨W, ρ, R, Z, ok, h, hR, hZ⟩ => hR _ _ _ _ _ h (.refl ok) .nil
theorem da_cons {es : List Expr} {u : WA} (ha : DE X G T a wa) (hr : DA X G T es u) (hs : starEach (a :: es) X.env = (false, eval a X.env) :: starEach es X.env := by rfl) : DA X G T (a :: es) (wCons wa u) :=
  pa_weak (pa_cons ha hr hs) fun σ H Q ⟨W, ρ, R, Z, ok, h, hR, hZ⟩ => by
    refine lE_then (R := fun x ρ1 => u Z ρ1 fun xs ρ2 => R (x :: xs) ρ2) ok h hZ fun d ρ1 W1 x H1 h1 g1 d1 => ?_
    exact ⟨W1, ρ1, _, Z, g1.ok, h1, fun ds ρ2 W2 xs H2 h2 g2 d2 => hR _ _ _ _ _ h2 (g1.trans g2) (.cons (d1.le g2.stp.le) d2), hZ.go g1⟩
def wTup (u : WA) : WE := fun Z ρ R => u Z ρ fun ds ρ1 => ds.length ≤ sizeLine ∧ R (.d (.tup ds)) ρ1
def wLst (u : WA) : WE := fun Z ρ R => u Z ρ fun ds ρ1 => ds.length ≤ sizeLine ∧ R (.own ds) ρ1
/-- a frozen new object -/
theorem Go.newF {K : PySem.W.Frag} {σ : L2.St} {ρ : Rho} {W : Wd} {H : Hp} {p : Addr} {o : HO} (ok : Ok K G W ρ σ H) (hp : H p = none) : Go K G σ ρ W H ρ (W.add p) (upd H p o) :=
  ok.grow (step_frz ok.al hp) (al_frz ok.al hp)
theorem Go.new {K : PySem.W.Frag} {σ : L2.St} {ρ : Rho} {W : Wd} {H : Hp} {p : Addr} {o : HO} (ok : Ok K G W ρ σ H) (hp : H p = none) : Go K G σ ρ W H ρ W (upd H p o) :=
  ok.grow (step_new ok.al hp) (al_new ok.al hp)
theorem res_tup {K : PySem.W.Frag} {σ : L2.St} {ρ : Rho} {W : Wd} {H : Hp} {p : Addr} {ds : List D} {xs : List V} (ok : Ok K G W ρ σ H) (hp : H p = none) (h : DnA K W H ds xs) : Dn K (W.add p) (upd H p (.tup xs)) (.tup ds) (.ref p) :=
  .tup (.inl ⟨.inr rfl, Rd.of upd_same⟩) (h.le (step_frz ok.al hp).le)
theorem res_own {K : PySem.W.Frag} {σ : L2.St} {ρ : Rho} {W : Wd} {H H0 : Hp} {p : Addr} {ds : List D} {xs : List V} (ok : Ok K G W ρ σ H) (hp : H p = none) (h0 : H0 p = none) (h : DnA K W H ds xs) : Res K H0 W (upd H p (.lst xs)) (.own ds) (.ref p) := by
  refine ⟨⟨p, xs, rfl, upd_same, h.le (step_new ok.al hp).le⟩, fun _ q e => ?_⟩
  cases e
  refine ⟨fun z => ?_, fun z => ?_, h0⟩
  · obtain ⟨o, e⟩ := ok.al.f p z; rw [hp] at e; cases e
  · obtain ⟨x, y, z', e, _⟩ := ok.al.j p z; rw [hp] at e; cases e
theorem res_odic {K : PySem.W.Frag} {σ : L2.St} {ρ : Rho} {W : Wd} {H H0 : Hp} {p : Addr} {ds : List (Key × D)} {xs : List (Key × V)} (ok : Ok K G W ρ σ H) (hp : H p = none) (h0 : H0 p = none) (h : DnK K W H ds xs) : Res K H0 W (upd H p (.dK xs)) (.odic ds) (.ref p) := by
  refine ⟨⟨p, xs, rfl, upd_same, h.le (step_new ok.al hp).le⟩, fun _ q e => ?_⟩
  cases e
  refine ⟨fun z => ?_, fun z => ?_, h0⟩
  · obtain ⟨o, e⟩ := ok.al.f p z; rw [hp] at e; cases e
  · obtain ⟨x, y, z', e, _⟩ := ok.al.j p z; rw [hp] at e; cases e
theorem de_tup {es : List Expr} {u : WA} {x1} (h : DA X G T es u) : DE X G T (.Tuple es x1 pos) (wTup u) :=
  pe_weak (pe_tup h) fun σ H Q ⟨W, ρ, R, Z, ok, h, hR, hZ⟩ => ⟨W, ρ, _, Z, ok, h, fun ds ρ1 W1 xs H1 ⟨hl, h1⟩ g d => ⟨by rw [← d.length]; exact hl, fun p hp => hR _ _ _ _ _ h1 (g.trans (.newF g.ok hp)) (.of (res_tup g.ok hp d))⟩, hZ⟩
theorem de_lst {es : List Expr} {u : WA} (h : DA X G T es u) : DE X G T (.List es pos) (wLst u) :=
  pe_weak (pe_lst h) fun σ H Q ⟨W, ρ, R, Z, ok, h, hR, hZ⟩ => ⟨W, ρ, _, Z, ok, h, fun ds ρ1 W1 xs H1 ⟨hl, h1⟩ g d => ⟨by rw [← d.length]; exact hl, fun p hp => hR _ _ _ _ _ h1 (g.trans (.new g.ok hp)) (res_own g.ok hp (g.stp.up p hp) d)⟩, hZ⟩
/-! ### calls of built-ins -/
def wCallB (f : List D → (S → Prop) → Prop) (u : WA) : WE := fun Z ρ R => u Z ρ fun ds ρ1 => f ds fun z => R z ρ1
def CaD (K : PySem.W.Frag) (r : List V → Hp → VK → Prop) (f : List D → (S → Prop) → Prop) : Prop :=
  ∀ (G : Gx) (W : Wd) (ρ : Rho) (σ : L2.St) (H : Hp) (ds : List D) (xs : List V) (R : S → Prop) (Q : VK), Ok K G W ρ σ H → DnA K W H ds xs → f ds R →
    (∀ z W' v H', R z → Go K G σ ρ W H ρ W' H' → Res K H W' H' z v → Q v H') → r xs H Q
theorem lE_callB {K : PySem.W.Frag} {r : List V → Hp → VK → Prop} {f : List D → (S → Prop) → Prop} {u : WA} (ho : CaD K r f) {σ : L2.St} {H : Hp} {Q : VK} (h : lE K G T (wCallB f u) σ H Q) : tCB r (lA K G T u) σ H Q := by
  obtain ⟨W, ρ, R, Z, ok, h, hR, hZ⟩ := h
  exact ⟨W, ρ, _, Z, ok, h, fun ds ρ1 W1 xs H1 h1 g d => ho G W1 ρ1 σ H1 ds xs _ Q g.ok d h1 fun z W' v H' hz g2 r => hR z ρ1 W' v H' hz (g.trans g2) (r.up g.stp.up), hZ⟩
theorem de_callB {x : Str} {id : String} {es : List Expr} {r : List V → Hp → VK → Prop} {f : List D → (S → Prop) → Prop} {u : WA} (hr : CallR X (.builtin id) r) (ho : CaD X.K r f) (hg : Gl X x) (hm : X.mg x = none) (hv : bootBuiltins x = some (.builtin id))
    (ha : DA X G T (e :: es) u) (hn : x ≠ "__name__" := by decide) (hdb : (x == ("__debug__" : Str)) = false := by decide)
    (he : starEach (e :: es) X.env = (false, eval e X.env) :: starEach es X.env := by rfl) (hpl : (backTo pos (starEach es X.env)).any (·.1) = false := by rfl) : DE X G T (.Call (.Name x p) (e :: es) [] pos) (wCallB f u) :=
  pe_weak (pe_callB hr hg hm hv ha hn hdb he hpl) fun _ _ _ h => lE_callB ho h
theorem de_callTy {x : Str} {n : String} {es : List Expr} {r : List V → Hp → VK → Prop} {f : List D → (S → Prop) → Prop} {u : WA} (hr : CallR X (.type n) r) (ho : CaD X.K r f) (hg : Gl X x) (hm : X.mg x = none) (hv : bootBuiltins x = some (.type n))
    (ha : DA X G T (e :: es) u) (hn : x ≠ "__name__" := by decide) (hdb : (x == ("__debug__" : Str)) = false := by decide)
    (he : starEach (e :: es) X.env = (false, eval e X.env) :: starEach es X.env := by rfl) (hpl : (backTo pos (starEach es X.env)).any (·.1) = false := by rfl) : DE X G T (.Call (.Name x p) (e :: es) [] pos) (wCallB f u) :=
  pe_weak (pe_callTy hr hg hm hv ha hn hdb he hpl) fun _ _ _ h => lE_callB ho h
end
end DL

/-! DL2: operators and built-ins over data. -/
namespace DL
open PySem PySem.Spec L2
/-! ### data that can be compared and shown -/
mutual
def D.py : D → PyData
  | .non => .none
  | .bl b => .bool b
  | .int i => .int i
  | .str s => .str s
  | .tup ds => .tuple (D.pys ds)
  | .lst ds => .list (D.pys ds)
  | .rls ds => .list (D.pys ds)
  | _ => .none
def D.pys : List D → List PyData
  | [] => []
  | d :: ds => d.py :: D.pys ds
end
mutual
def D.isPy : D → Bool
  | .non => true
  | .bl _ => true
  | .int _ => true
  | .str _ => true
  | .tup ds => D.arePy ds
  | .lst ds => D.arePy ds
  | .rls ds => D.arePy ds
  | _ => false
def D.arePy : List D → Bool
  | [] => true
  | d :: ds => d.isPy && D.arePy ds
end
def D.scl : D → Bool
  | .non => true | .bl _ => true | .int _ => true | .str _ => true | _ => false
/-- == may be asked -/
def D.okEq (d : D) : Bool := d.isPy && SeqAt.shaped d.py
def D.okSc : D → D → Bool
  | .bl _, .int _ => false | .int _, .bl _ => false | d, e => d.scl && e.scl
def D.cmpOk (d e : D) : Bool := D.okSc d e || (d.okEq && e.okEq)
def D.eqb (d e : D) : Bool := PyData.eqv d.py e.py
def fEq (d e : D) (R : S → Prop) : Prop := D.cmpOk d e = true ∧ R (.d (.bl (D.eqb d e)))
def fNe (d e : D) (R : S → Prop) : Prop := D.cmpOk d e = true ∧ R (.d (.bl (!D.eqb d e)))
section
variable {K : PySem.W.Frag} {W : Wd} {H : Hp}
mutual
theorem Dn.dp : ∀ {d : D} {x : V}, Dn K W H d x → d.isPy = true → Dp K H x d.py
  | _, _, .non, _ => .non
  | _, _, .bl b, _ => .bl b
  | _, _, .int i, _ => .int i
  | _, _, .str s, _ => .str s
  | _, _, .tup h1 h2, p => .tup h1.sq (h2.dps p)
  | _, _, .lst _ h1 h2, p => .lst (SqL.of h1) (h2.dps p)
  | _, _, .rls h1 h2, p => .lst h1.sq (h2.dps p)
theorem DnA.dps : ∀ {d : List D} {x : List V}, DnA K W H d x → D.arePy d = true → DpAll K H x (D.pys d)
  | _, _, .nil, _ => .nil
  | _, _, .cons h1 h2, p => by
    have p' : (D.isPy _ && D.arePy _) = true := p
    rw [Bool.and_eq_true] at p'
    exact .cons (h1.dp p'.1) (h2.dps p'.2)
end
theorem scal_of {d e : D} {x y : V} (h : Dn K W H d x) (g : Dn K W H e y) (o : D.okSc d e = true) : scal x y = true ∧ decide (x = y) = D.eqb d e := by
  cases h <;> cases g <;> first | (cases o; done) | (refine ⟨rfl, ?_⟩; first | exact dec_int | exact dec_bl | exact dec_str | (simp [D.eqb, D.py, PyData.eqv]; done))
def rEqA (K : PySem.W.Frag) : R2 := fun x y H Q => rEq x y H Q ∨ rEqD K x y H Q
def rNeA (K : PySem.W.Frag) : R2 := fun x y H Q => rNe x y H Q ∨ rNeD K x y H Q
theorem or_eqA {X : Cx} (hu : X.A.units + 64 < cLine) : OpR X (compareOp .Eq) (rEqA X.K) := OpR.or op_eq (op_eqD hu)
theorem or_neA {X : Cx} (hu : X.A.units + 64 < cLine) : OpR X (compareOp .NotEq) (rNeA X.K) := OpR.or op_ne (op_neD hu)
theorem od_eq : OpD K (rEqA K) fEq := by
  intro G W ρ σ H d e x y R Q ok h g ⟨f, r⟩ k
  rcases Bool.or_eq_true _ _ |>.mp f with o | o
  · obtain ⟨a, b⟩ := scal_of h g o
    exact .inl ⟨a, by rw [b]; exact k _ _ _ _ r (.refl ok) (.of (.bl _))⟩
  · simp only [D.okEq, Bool.and_eq_true] at o
    exact .inr ⟨_, _, h.dp o.1.1, g.dp o.2.1, o.1.2, o.2.2, k _ _ _ _ r (.refl ok) (.of (.bl _))⟩
theorem od_ne : OpD K (rNeA K) fNe := by
  intro G W ρ σ H d e x y R Q ok h g ⟨f, r⟩ k
  rcases Bool.or_eq_true _ _ |>.mp f with o | o
  · obtain ⟨a, b⟩ := scal_of h g o
    exact .inl ⟨a, by rw [b]; exact k _ _ _ _ r (.refl ok) (.of (.bl _))⟩
  · simp only [D.okEq, Bool.and_eq_true] at o
    exact .inr ⟨_, _, h.dp o.1.1, g.dp o.2.1, o.1.2, o.2.2, k _ _ _ _ r (.refl ok) (.of (.bl _))⟩
/-! ### order, is None, in -/
def fI2 (g : Int → Int → D) (d e : D) (R : S → Prop) : Prop := match d, e with
  | .int i, .int j => R (.d (g i j))
  | _, _ => False
theorem od_i2 {g : Int → Int → V} {g' : Int → Int → D} (hg : ∀ W H i j, Dn K W H (g' i j) (g i j)) : OpD K (rI0 g) (fI2 g') := by
  intro G W ρ σ H d e x y R Q ok h h' f k
  cases h <;> first | exact f.elim | skip
  cases h' <;> first | exact f.elim | skip
  exact ⟨_, _, rfl, rfl, k _ _ _ _ f (.refl ok) (.of (hg _ _ _ _))⟩
abbrev fLt := fI2 fun i j => .bl (decide (i < j))
abbrev fLe := fI2 fun i j => .bl (decide (i ≤ j))
abbrev fGt := fI2 fun i j => .bl (decide (j < i))
abbrev fGe := fI2 fun i j => .bl (decide (j ≤ i))
theorem od_lt : OpD K (rI0 fun i j => .bl (decide (i < j))) fLt := od_i2 fun _ _ _ _ => .bl _
theorem od_le : OpD K (rI0 fun i j => .bl (decide (i ≤ j))) fLe := od_i2 fun _ _ _ _ => .bl _
theorem od_gt : OpD K (rI0 fun i j => .bl (decide (j < i))) fGt := od_i2 fun _ _ _ _ => .bl _
theorem od_ge : OpD K (rI0 fun i j => .bl (decide (j ≤ i))) fGe := od_i2 fun _ _ _ _ => .bl _
def D.isNon (d : D) (R : Bool → Prop) : Prop := match d with
  | .non => R true
  | .v _ => False
  | _ => R false
def fIsN (d _e : D) (R : S → Prop) : Prop := d.isNon fun b => R (.d (.bl b))
def fNotN (d _e : D) (R : S → Prop) : Prop := d.isNon fun b => R (.d (.bl (!b)))
end
section
variable {X : Cx} {G : Gx} {T : WX} {a b : Expr} {wa : WE} {pos : Pos}
theorem dn_non {K : PySem.W.Frag} {W : Wd} {H : Hp} {d : D} {x : V} (h : Dn K W H d x) {R : Bool → Prop} (f : d.isNon R) : R (decide (x = .non)) := by
  cases h <;> first | exact f.elim | exact f
theorem de_isN {j p} (ha : DE X G T a wa) : DE X G T (.Compare a [.Is] [.Constant .none j p] pos) (wUn (fun d R => d.isNon fun b => R (.d (.bl b))) wa) :=
  pe_weak (pe_cmp (pc_isN ha)) fun σ H Q h => lE_un (K := X.K) (r := fun x H Q => Q (.bl (decide (x = .non))) H) (fun G W ρ σ H d x R Q ok h f k => k _ _ _ _ (dn_non h f) (.refl ok) (.of (.bl _))) h
theorem de_notN {j p} (ha : DE X G T a wa) : DE X G T (.Compare a [.IsNot] [.Constant .none j p] pos) (wUn (fun d R => d.isNon fun b => R (.d (.bl (!b)))) wa) :=
  pe_weak (pe_cmp (pc_notN ha)) fun σ H Q h => lE_un (K := X.K) (r := fun x H Q => Q (.bl (!decide (x = .non))) H) (fun G W ρ σ H d x R Q ok h f k => k _ _ _ _ (dn_non h f) (.refl ok) (.of (.bl _))) h
theorem tB_test (t : TE) : tB t = tTest t := rfl
theorem dt_isN {j p} (ha : DE X G T a wa) : DT X G T (.Compare a [.Is] [.Constant .none j p] pos) (wB (wUn (fun d R => d.isNon fun b => R (.d (.bl b))) wa)) :=
  pt_weak (pt_cmp (pc_isN ha)) fun σ H Q h => lT_B (t := tIsN (lE X.K G T wa)) (fun Q h => lE_un (K := X.K) (r := fun x H Q => Q (.bl (decide (x = .non))) H) (fun G W ρ σ H d x R Q ok h f k => k _ _ _ _ (dn_non h f) (.refl ok) (.of (.bl _))) h) h
theorem dt_notN {j p} (ha : DE X G T a wa) : DT X G T (.Compare a [.IsNot] [.Constant .none j p] pos) (wB (wUn (fun d R => d.isNon fun b => R (.d (.bl (!b)))) wa)) :=
  pt_weak (pt_cmp (pc_notN ha)) fun σ H Q h => lT_B (t := tNotN (lE X.K G T wa)) (fun Q h => lE_un (K := X.K) (r := fun x H Q => Q (.bl (!decide (x = .non))) H) (fun G W ρ σ H d x R Q ok h f k => k _ _ _ _ (dn_non h f) (.refl ok) (.of (.bl _))) h) h
end
/-! ### arithmetic -/
def fAdd (d e : D) (R : S → Prop) : Prop := match d, e with
  | .int i, .int j => R (.d (.int (i + j)))
  | .str i, .str j => i.length + j.length ≤ sizeLine ∧ R (.d (.str (i ++ j)))
  | .tup i, .tup j => i.length + j.length ≤ sizeLine ∧ R (.d (.tup (i ++ j)))
  | .lst i, .lst j => i.length + j.length ≤ sizeLine ∧ R (.own (i ++ j))
  | _, _ => False
abbrev rAddI : R2 := rI0 fun i j => .int (i + j)
abbrev rAddS : R2 := fun x y H Q => ∃ i j, x = .str i ∧ y = .str j ∧ i.length + j.length ≤ sizeLine ∧ Q (.str (i ++ j)) H
def rAddA (K : PySem.W.Frag) : R2 := fun x y H Q => ((rAddI x y H Q ∨ rAddS x y H Q) ∨ rCatA K x y H Q) ∨ rCat x y H Q
section
variable {K : PySem.W.Frag}
theorem or_add {X : Cx} : OpR X (binaryOp .Add) (rAddA X.K) := ((op_add.or op_add_str).or op_catA).or op_cat
theorem od_add : OpD K (rAddA K) fAdd := by
  intro G W ρ σ H d e x y R Q ok h h' f k
  cases h with
  | int i => cases h' with
    | int j => exact .inl (.inl (.inl ⟨_, _, rfl, rfl, k _ _ _ _ f (.refl ok) (.of (.int _))⟩))
    | _ => exact f.elim
  | str i => cases h' with
    | str j => exact .inl (.inl (.inr ⟨_, _, rfl, rfl, f.1, k _ _ _ _ f.2 (.refl ok) (.of (.str _))⟩))
    | _ => exact f.elim
  | tup h1 h2 => cases h' with
    | tup g1 g2 =>
      refine .inl (.inr ⟨_, _, _, _, rfl, rfl, h1.sq, g1.sq, by rw [← h2.length, ← g2.length]; exact f.1, fun q => ?_, fun _ q => ?_, fun _ _ p hp => ?_⟩)
      · subst q; cases h2
        exact k _ _ _ _ f.2 (.refl ok) (.of (.tup g1 g2))
      · subst q; cases g2
        refine k _ _ _ _ f.2 (.refl ok) (.of ?_)
        rw [List.append_nil]; exact .tup h1 h2
      · exact k _ _ _ _ f.2 (.newF ok hp) (.of (res_tup ok hp (h2.append g2)))
    | _ => exact f.elim
  | lst h0 h1 h2 => cases h' with
    | lst g0 g1 g2 =>
      exact .inr ⟨_, _, _, _, rfl, rfl, h1, g1, by rw [← h2.length, ← g2.length]; exact f.1, fun p hp => k _ _ _ _ f.2 (.new ok hp) (res_own ok hp hp (h2.append g2))⟩
    | _ => exact f.elim
  | _ => exact f.elim
def fSub := fI2 fun i j => .int (i - j)
theorem od_sub : OpD K (rI0 fun i j => .int (i - j)) fSub := od_i2 fun _ _ _ _ => .int _
def MulOk (i j : Int) : Prop := CMul i j ∨ CMulW i j
def fMul (d e : D) (R : S → Prop) : Prop := match d, e with
  | .int i, .int j => MulOk i j ∧ R (.d (.int (i * j)))
  | .lst i, .int j => (-(2 ^ 63) ≤ j ∧ j < 2 ^ 63) ∧ i.length * j.toNat ≤ sizeLine ∧ R (.own (List.replicate j.toNat i).flatten)
  | .tup i, .int j => i ≠ [] ∧ (2 ≤ j ∧ j ≤ 1000) ∧ i.length ≤ 1000 ∧ R (.d (.tup (List.replicate j.toNat i).flatten))
  | _, _ => False
def rMulA (K : PySem.W.Frag) : R2 := fun x y H Q => (((rI CMul fun i j => .int (i * j)) x y H Q ∨ (rI CMulW fun i j => .int (i * j)) x y H Q) ∨ rRep x y H Q) ∨ rRepT K x y H Q
theorem or_mul {X : Cx} : OpR X (binaryOp .Mult) (rMulA X.K) := ((op_mul.or op_mulW).or op_rep).or op_repT
theorem DnA.rep {W : Wd} {H : Hp} {ds : List D} {xs : List V} (h : DnA K W H ds xs) : ∀ n : Nat, DnA K W H (List.replicate n ds).flatten (List.replicate n xs).flatten
  | 0 => .nil
  | n + 1 => by
    rw [List.replicate_succ, List.replicate_succ, List.flatten_cons, List.flatten_cons]
    exact h.append (h.rep n)
theorem od_mul : OpD K (rMulA K) fMul := by
  intro G W ρ σ H d e x y R Q ok h h' f k
  cases h with
  | int i => cases h' with
    | int j =>
      rcases f with ⟨c | c, f⟩
      · exact .inl (.inl (.inl ⟨_, _, rfl, rfl, c, k _ _ _ _ f (.refl ok) (.of (.int _))⟩))
      · exact .inl (.inl (.inr ⟨_, _, rfl, rfl, c, k _ _ _ _ f (.refl ok) (.of (.int _))⟩))
    | _ => exact f.elim
  | lst h0 h1 h2 => cases h' with
    | int j => exact .inl (.inr ⟨_, _, _, rfl, rfl, h1, f.1.1, f.1.2, by rw [← h2.length]; exact f.2.1, fun p hp => k _ _ _ _ f.2.2 (.new ok hp) (res_own ok hp hp (h2.rep _))⟩)
    | _ => exact f.elim
  | tup h1 h2 => cases h' with
    | int j =>
      obtain ⟨f1, f2, f3, f4⟩ := f
      refine .inr ⟨_, _, _, rfl, rfl, h1.sq, fun q => ?_, f2.1, f2.2, by rw [← h2.length]; exact f3, fun p hp => k _ _ _ _ f4 (.newF ok hp) (.of (res_tup ok hp (h2.rep _)))⟩
      subst q; cases h2; exact f1 rfl
    | _ => exact f.elim
  | _ => exact f.elim
def DivOk (i j : Int) : Prop := CDivN i j ∨ CDivW i j
def fDiv (d e : D) (R : S → Prop) : Prop := match d, e with
  | .int i, .int j => DivOk i j ∧ R (.d (.int (i.fdiv j)))
  | _, _ => False
def rDivA : R2 := fun x y H Q => (rI CDivN fun i j => .int (i.fdiv j)) x y H Q ∨ (rI CDivW fun i j => .int (i / j)) x y H Q
theorem or_div {X : Cx} : OpR X (binaryOp .FloorDiv) rDivA := op_fdivN.or op_fdivW
theorem od_div : OpD K rDivA fDiv := by
  intro G W ρ σ H d e x y R Q ok h h' f k
  cases h with
  | int i => cases h' with
    | int j =>
      rcases f with ⟨c | c, f⟩
      · exact .inl ⟨_, _, rfl, rfl, c, k _ _ _ _ f (.refl ok) (.of (.int _))⟩
      · refine .inr ⟨_, _, rfl, rfl, c, k _ _ _ _ f (.refl ok) (.of ?_)⟩
        rw [Int.fdiv_eq_ediv_of_nonneg _ (Int.le_of_lt c.1)]
        exact .int _
    | _ => exact f.elim
  | _ => exact f.elim
def fMod (d e : D) (R : S → Prop) : Prop := match d, e with
  | .int i, .int j => j ≠ 0 ∧ R (.d (.int (i.fmod j)))
  | _, _ => False
theorem od_mod : OpD K (rI (fun _ j => j ≠ 0) fun i j => .int (i.fmod j)) fMod := by
  intro G W ρ σ H d e x y R Q ok h h' f k
  cases h with
  | int i => cases h' with
    | int j => exact ⟨_, _, rfl, rfl, f.1, k _ _ _ _ f.2 (.refl ok) (.of (.int _))⟩
    | _ => exact f.elim
  | _ => exact f.elim
def fPow (d e : D) (R : S → Prop) : Prop := match d, e with
  | .int i, .int j => CPow i j ∧ R (.d (.int (i ^ j.toNat)))
  | _, _ => False
theorem od_pow : OpD K (rI CPow fun i j => .int (i ^ j.toNat)) fPow := by
  intro G W ρ σ H d e x y R Q ok h h' f k
  cases h with
  | int i => cases h' with
    | int j => exact ⟨_, _, rfl, rfl, f.1, k _ _ _ _ f.2 (.refl ok) (.of (.int _))⟩
    | _ => exact f.elim
  | _ => exact f.elim
/-! ### in -/
def D.items : D → Option (List D)
  | .tup ds => some ds
  | .lst ds => some ds
  | .rls ds => some ds
  | _ => none
theorem Dn.seq {W : Wd} {H : Hp} {d : D} {x : V} {ds : List D} (h : Dn K W H d x) (e : d.items = some ds) : ∃ p vs, x = .ref p ∧ (SqL K H p vs ∨ SqT K H p vs) ∧ DnA K W H ds vs := by
  cases h <;> first | (cases e; done) | skip
  · cases e; exact ⟨_, _, rfl, .inr (SeqT.sq ‹_›), ‹_›⟩
  · cases e; exact ⟨_, _, rfl, .inl (SqL.of ‹_›), ‹_›⟩
  · cases e; exact ⟨_, _, rfl, .inl (SeqL.sq ‹_›), ‹_›⟩
/-- x in a list or tuple of flat things -/
def fIn (d e : D) (R : S → Prop) : Prop := ∃ ds, e.items = some ds ∧ d.scl = true ∧ ds.all D.scl = true ∧ R (.d (.bl (ds.any fun z => D.eqb z d)))
def fNin (d e : D) (R : S → Prop) : Prop := ∃ ds, e.items = some ds ∧ d.scl = true ∧ ds.all D.scl = true ∧ R (.d (.bl (!ds.any fun z => D.eqb z d)))
theorem Dn.flat {W : Wd} {H : Hp} {d : D} {x : V} (h : Dn K W H d x) (e : d.scl = true) : flatV x = true := by
  cases h <;> first | rfl | cases e
theorem DnA.flat {W : Wd} {H : Hp} : ∀ {d : List D} {x : List V}, DnA K W H d x → d.all D.scl = true → x.all flatV = true
  | _, _, .nil, _ => rfl
  | _, _, .cons h1 h2, e => by
    rw [List.all_cons, Bool.and_eq_true] at e ⊢
    exact ⟨h1.flat e.1, h2.flat e.2⟩
theorem Dn.eqV {W : Wd} {H : Hp} {d e : D} {x y : V} (h : Dn K W H d x) (g : Dn K W H e y) (o : d.scl = true) (q : e.scl = true) : eqV x y = D.eqb d e := by
  cases h <;> cases g <;> first | (cases o; done) | (cases q; done) | (simp [D.eqb, D.py, PyData.eqv, L2.eqV]; done)
theorem DnA.inV {W : Wd} {H : Hp} {d : D} {x : V} (h : Dn K W H d x) (o : d.scl = true) : ∀ {ds : List D} {xs : List V}, DnA K W H ds xs → ds.all D.scl = true → inV x xs = ds.any fun z => D.eqb z d
  | _, _, .nil, _ => rfl
  | _, _, .cons h1 h2, e => by
    rw [List.all_cons, Bool.and_eq_true] at e
    have ih := DnA.inV h o h2 e.2
    unfold L2.inV at ih ⊢
    rw [List.any_cons, List.any_cons, h1.eqV h e.1 o, ih]
theorem od_in : OpD K (rIn K false) fIn := by
  intro G W ρ σ H d e x y R Q ok h h' ⟨ds, f1, f2, f3, f4⟩ k
  obtain ⟨p, vs, rfl, s, a⟩ := h'.seq f1
  refine ⟨p, vs, rfl, s, h.flat f2, a.flat f3, ?_⟩
  simp only [if_neg Bool.false_ne_true]
  rw [DnA.inV h f2 a f3]
  exact k _ _ _ _ f4 (.refl ok) (.of (.bl _))
theorem od_nin : OpD K (rIn K true) fNin := by
  intro G W ρ σ H d e x y R Q ok h h' ⟨ds, f1, f2, f3, f4⟩ k
  obtain ⟨p, vs, rfl, s, a⟩ := h'.seq f1
  refine ⟨p, vs, rfl, s, h.flat f2, a.flat f3, ?_⟩
  simp only [if_true]
  rw [DnA.inV h f2 a f3]
  exact k _ _ _ _ f4 (.refl ok) (.of (.bl _))
/-! ### xs[i], t[i], s[i] -/
def fIx (d e : D) (R : S → Prop) : Prop := match d, e with
  | .str s, .int i => ∃ c, s.length ≤ sizeLine ∧ atI s.cps.toList i = some c ∧ R (.d (.str ⟨#[c]⟩))
  | .jar, .int i => (i = 0 ∨ i = 1 ∨ i = 2) ∧ ∀ n : Int, (i = 1 → -(2 ^ 40) < n ∧ n < 2 ^ 40) → R (.d (.int n))
  | d, .int i => ∃ ds x, d.items = some ds ∧ atI ds i = some x ∧ R (.d x)
  | _, _ => False
theorem DnA.atI {W : Wd} {H : Hp} {ds : List D} {xs : List V} {i : Int} {d : D} (h : DnA K W H ds xs) (e : atI ds i = some d) : ∃ x, L2.atI xs i = some x ∧ Dn K W H d x := by
  unfold L2.atI at e ⊢
  rw [← h.length]
  cases q : ixN ds.length i with
  | none => rw [q] at e; cases e
  | some j =>
    rw [q] at e
    exact h.get e
theorem fix_items {d : D} {i : Int} {R : S → Prop} (f : fIx d (.int i) R) (n : ∀ s, d ≠ .str s) (n' : d ≠ .jar) : ∃ ds x, d.items = some ds ∧ L2.atI ds i = some x ∧ R (.d x) := by
  cases d <;> first | exact f | exact absurd rfl (n _) | exact absurd rfl n'
end
section
variable {X : Cx} {G : Gx} {T : WX} {a b : Expr} {wa wb : WE} {pos : Pos}
theorem od_ix {K : PySem.W.Frag} : OpD K (rIx K) fIx := by
  intro G W ρ σ H d e x y R Q ok h h' f k
  cases h' with
  | int i =>
    by_cases hs : ∃ s, d = .str s
    · obtain ⟨s, rfl⟩ := hs
      cases h
      obtain ⟨c, f1, f2, f3⟩ := f
      exact .inr (.inr ⟨s, i, c, rfl, rfl, f1, f2, k _ _ _ _ f3 (.refl ok) (.of (.str _))⟩)
    · by_cases hj : d = .jar
      · subst hj
        cases h
        rename_i a ja
        obtain ⟨p, q, r, e, b1, b2⟩ := ok.al.j a ja
        obtain ⟨f1, f2⟩ := f
        refine .inl ⟨a, [.int p, .int q, .int r], i, .int (if i = 0 then p else if i = 1 then q else r), rfl, rfl, SqL.of e, ?_, k _ _ _ _ (f2 _ fun e1 => ?_) (.refl ok) (.of (.int _))⟩
        · rcases f1 with rfl | rfl | rfl <;> rfl
        · subst e1; exact ⟨b1, b2⟩
      obtain ⟨ds, z, f1, f2, f3⟩ := fix_items f (fun s q => hs ⟨s, q⟩) hj
      obtain ⟨p, vs, rfl, s, a⟩ := h.seq f1
      obtain ⟨v, e1, e2⟩ := a.atI f2
      have q := k _ _ _ _ f3 (.refl ok) (.of e2)
      rcases s with s | s
      · exact .inl ⟨_, _, _, _, rfl, rfl, s, e1, q⟩
      · exact .inr (.inl ⟨_, _, _, _, rfl, rfl, s, e1, q⟩)
  | _ => exact (by cases d <;> exact f.elim)
theorem de_ix (ha : DE X G T a wa) (hb : DE X G T b wb) (hs : PlainIx b := by intro _ _; rfl) : DE X G T (.Subscript a b pos) (wBin fIx wa wb) :=
  pe_weak (pe_ix ix_seq ha hb hs) fun _ _ _ h => lE_bin od_ix h
end
/-! ### built-ins -/
section
variable {K : PySem.W.Frag}
def fLen (ds : List D) (R : S → Prop) : Prop := match ds with
  | [.str s] => s.length ≤ sizeLine ∧ R (.d (.int s.length))
  | [d] => ∃ es, d.items = some es ∧ R (.d (.int es.length))
  | _ => False
theorem flen_items {d : D} {R : S → Prop} (f : fLen [d] R) (n : ∀ s, d ≠ .str s) : ∃ ds, d.items = some ds ∧ R (.d (.int ds.length)) := by
  cases d <;> first | exact f | exact absurd rfl (n _)
theorem dna1 {W : Wd} {H : Hp} {ds : List D} {xs : List V} (h : DnA K W H ds xs) (e : ds.length = 1) : ∃ d x, ds = [d] ∧ xs = [x] ∧ Dn K W H d x := by
  match ds, e, h with
  | [d], _, .cons h1 .nil => exact ⟨_, _, rfl, rfl, h1⟩
theorem flen1 {ds : List D} {R : S → Prop} (f : fLen ds R) : ds.length = 1 := by
  match ds, f with
  | [d], _ => rfl
  | [], f => exact f.elim
  | a :: _ :: _, f => cases a <;> exact f.elim
theorem cd_len : CaD K (fun xs H Q => ∃ x n, xs = [x] ∧ LenV K x H n ∧ Q (.int n) H) fLen := by
  intro G W ρ σ H ds xs R Q ok h f k
  obtain ⟨d, x, rfl, rfl, h1⟩ := dna1 h (flen1 f)
  by_cases hs : ∃ s, d = .str s
  · obtain ⟨s, rfl⟩ := hs
    cases h1
    exact ⟨_, _, rfl, ⟨f.1, rfl⟩, k _ _ _ _ f.2 (.refl ok) (.of (.int _))⟩
  · obtain ⟨es, e1, e2⟩ := flen_items f fun s q => hs ⟨s, q⟩
    obtain ⟨p, vs, rfl, s, a⟩ := h1.seq e1
    refine ⟨.ref p, es.length, rfl, ?_, k _ _ _ _ e2 (.refl ok) (.of (.int _))⟩
    rcases s with s | s
    · exact .inl ⟨_, s, a.length⟩
    · exact .inr ⟨_, s, a.length⟩
def fTuple (ds : List D) (R : S → Prop) : Prop := match ds with
  | [d] => ∃ es, d.items = some es ∧ R (.d (.tup es))
  | _ => False
theorem cd_tuple : CaD K (fun xs H Q => ∃ p ys, xs = [.ref p] ∧ ((SqL K H p ys ∧ ∀ l, H l = none → Q (.ref l) (upd H l (.tup ys))) ∨ (SqT K H p ys ∧ Q (.ref p) H))) fTuple := by
  intro G W ρ σ H ds xs R Q ok h f k
  match ds, h, f with
  | [d], .cons (x := x) h1 .nil, f =>
    obtain ⟨es, e1, e2⟩ := f
    cases h1 <;> first | (cases e1; done) | skip
    · cases e1
      exact ⟨_, _, rfl, .inr ⟨SeqT.sq ‹_›, k _ _ _ _ e2 (.refl ok) (.of (.tup ‹_› ‹_›))⟩⟩
    · cases e1
      exact ⟨_, _, rfl, .inl ⟨SqL.of ‹_›, fun l hl => k _ _ _ _ e2 (.newF ok hl) (.of (res_tup ok hl ‹_›))⟩⟩
    · cases e1
      exact ⟨_, _, rfl, .inl ⟨SeqL.sq ‹_›, fun l hl => k _ _ _ _ e2 (.newF ok hl) (.of (res_tup ok hl ‹_›))⟩⟩
def fList (ds : List D) (R : S → Prop) : Prop := match ds with
  | [d] => ∃ es, d.items = some es ∧ R (.own es)
  | _ => False
theorem cd_list : CaD K (fun xs H Q => ∃ p ys, xs = [.ref p] ∧ (SqL K H p ys ∨ SqT K H p ys) ∧ ∀ l, H l = none → Q (.ref l) (upd H l (.lst ys))) fList := by
  intro G W ρ σ H ds xs R Q ok h f k
  match ds, h, f with
  | [d], .cons (x := x) h1 .nil, f =>
    obtain ⟨es, e1, e2⟩ := f
    obtain ⟨p, vs, rfl, s, a⟩ := h1.seq e1
    exact ⟨_, _, rfl, s, fun l hl => k _ _ _ _ e2 (.new ok hl) (res_own ok hl hl a)⟩
def fAbs (ds : List D) (R : S → Prop) : Prop := match ds with
  | [.int i] => R (.d (.int (if i < 0 then -i else i)))
  | _ => False
theorem cd_abs : CaD K (fun xs H Q => ∃ i, xs = [.int i] ∧ Q (.int (if i < 0 then -i else i)) H) fAbs := by
  intro G W ρ σ H ds xs R Q ok h f k
  match ds, h, f with
  | [.int i], .cons (.int _) .nil, f => exact ⟨_, rfl, k _ _ _ _ f (.refl ok) (.of (.int _))⟩
def fMax2 (ds : List D) (R : S → Prop) : Prop := match ds with
  | [.int i, .int j] => R (.d (.int (if j > i then j else i)))
  | _ => False
def fMin2 (ds : List D) (R : S → Prop) : Prop := match ds with
  | [.int i, .int j] => R (.d (.int (if j < i then j else i)))
  | _ => False
theorem cd_max2 : CaD K (fun xs H Q => ∃ i j, xs = [.int i, .int j] ∧ Q (.int (if j > i then j else i)) H) fMax2 := by
  intro G W ρ σ H ds xs R Q ok h f k
  match ds, h, f with
  | [.int i, .int j], .cons (.int _) (.cons (.int _) .nil), f => exact ⟨_, _, rfl, k _ _ _ _ f (.refl ok) (.of (.int _))⟩
theorem cd_min2 : CaD K (fun xs H Q => ∃ i j, xs = [.int i, .int j] ∧ Q (.int (if j < i then j else i)) H) fMin2 := by
  intro G W ρ σ H ds xs R Q ok h f k
  match ds, h, f with
  | [.int i, .int j], .cons (.int _) (.cons (.int _) .nil), f => exact ⟨_, _, rfl, k _ _ _ _ f (.refl ok) (.of (.int _))⟩
def fInt (ds : List D) (R : S → Prop) : Prop := match ds with
  | [.int i] => R (.d (.int i))
  | [.bl k] => R (.d (.int (if k then 1 else 0)))
  | _ => False
theorem cd_int : CaD K (fun xs H Q => (∃ i, xs = [.int i] ∧ Q (.int i) H) ∨ ∃ k, xs = [.bl k] ∧ Q (.int (if k then 1 else 0)) H) fInt := by
  intro G W ρ σ H ds xs R Q ok h f k
  match ds, h, f with
  | [.int i], .cons (.int _) .nil, f => exact .inl ⟨_, rfl, k _ _ _ _ f (.refl ok) (.of (.int _))⟩
  | [.bl i], .cons (.bl _) .nil, f => exact .inr ⟨_, rfl, k _ _ _ _ f (.refl ok) (.of (.int _))⟩
/-- of a list of ints, of bools -/
def fInts (g : List Int → (S → Prop) → Prop) (ds : List D) (R : S → Prop) : Prop := ∃ ns : List Int, (ds = [.lst (ns.map .int)] ∨ ds = [.rls (ns.map .int)]) ∧ g ns R
theorem DnA.ints1 {W : Wd} {H : Hp} {ds : List D} {xs : List V} {ns : List Int} (h : DnA K W H ds xs) (e : ds = [.lst (ns.map .int)] ∨ ds = [.rls (ns.map .int)]) : ∃ a, xs = [.ref a] ∧ SqL K H a (ns.map V.int) := by
  rcases e with rfl | rfl
  · match h with
    | .cons (.lst h0 h1 h2) .nil => rw [h2.map_int] at h1; exact ⟨_, rfl, SqL.of h1⟩
  · match h with
    | .cons (.rls h1 h2) .nil => rw [h2.map_int] at h1; exact ⟨_, rfl, h1.sq⟩
def fSum := fInts fun ns R => R (.d (.int ns.sum))
theorem cd_sum : CaD K (rSum K) fSum := by
  intro G W ρ σ H ds xs R Q ok h ⟨ns, e, f⟩ k
  obtain ⟨a, rfl, s⟩ := h.ints1 e
  exact ⟨a, ns, rfl, s, k _ _ _ _ f (.refl ok) (.of (.int _))⟩
def fMaxL := fInts fun ns R => 0 < ns.length ∧ ∀ m, m ∈ ns → (∀ y, y ∈ ns → y ≤ m) → R (.d (.int m))
def fMinL := fInts fun ns R => 0 < ns.length ∧ ∀ m, m ∈ ns → (∀ y, y ∈ ns → m ≤ y) → R (.d (.int m))
theorem cd_maxL : CaD K (L2.rMax K) fMaxL := by
  intro G W ρ σ H ds xs R Q ok h ⟨ns, e, f1, f⟩ k
  obtain ⟨a, rfl, s⟩ := h.ints1 e
  exact ⟨a, ns, rfl, s, f1, fun m h1 h2 => k _ _ _ _ (f m h1 h2) (.refl ok) (.of (.int _))⟩
theorem cd_minL : CaD K (L2.rMin K) fMinL := by
  intro G W ρ σ H ds xs R Q ok h ⟨ns, e, f1, f⟩ k
  obtain ⟨a, rfl, s⟩ := h.ints1 e
  exact ⟨a, ns, rfl, s, f1, fun m h1 h2 => k _ _ _ _ (f m h1 h2) (.refl ok) (.of (.int _))⟩
def fSorted := fInts fun ns R => ∀ ns' : List Int, ns'.Perm ns → ns'.Pairwise (· ≤ ·) → R (.own (ns'.map .int))
theorem cd_sorted : CaD K (rSortedI K) fSorted := by
  intro G W ρ σ H ds xs R Q ok h ⟨ns, e, f⟩ k
  obtain ⟨a, rfl, s⟩ := h.ints1 e
  exact ⟨a, ns, rfl, s, fun ns' p h1 h2 hp => k _ _ _ _ (f ns' h1 h2) (.new ok hp) (res_own ok hp hp (.of_int ns'))⟩
def fAll (ds : List D) (R : S → Prop) : Prop := ∃ bs : List Bool, ds = [.lst (bs.map .bl)] ∧ R (.d (.bl (bs.all id)))
def fAny (ds : List D) (R : S → Prop) : Prop := ∃ bs : List Bool, ds = [.lst (bs.map .bl)] ∧ R (.d (.bl (bs.any id)))
theorem DnA.bls1 {W : Wd} {H : Hp} {xs : List V} {ns : List Bool} (h : DnA K W H [.lst (ns.map .bl)] xs) : ∃ a, xs = [.ref a] ∧ SqL K H a (ns.map V.bl) := by
  match h with
  | .cons (.lst h0 h1 h2) .nil => rw [h2.map_bl] at h1; exact ⟨_, rfl, SqL.of h1⟩
theorem cd_all : CaD K (rAll K) fAll := by
  intro G W ρ σ H ds xs R Q ok h ⟨ns, e, f⟩ k
  subst e
  obtain ⟨a, rfl, s⟩ := h.bls1
  exact ⟨a, ns, rfl, s, k _ _ _ _ f (.refl ok) (.of (.bl _))⟩
theorem cd_any : CaD K (rAny K) fAny := by
  intro G W ρ σ H ds xs R Q ok h ⟨ns, e, f⟩ k
  subst e
  obtain ⟨a, rfl, s⟩ := h.bls1
  exact ⟨a, ns, rfl, s, k _ _ _ _ f (.refl ok) (.of (.bl _))⟩
/-! ### repr -/
def rRepr (K : PySem.W.Frag) : List V → Hp → VK → Prop := fun xs H Q => ∃ x d, xs = [x] ∧ Dp K H x d ∧ d.showable = true ∧ d.hasDict = false ∧ d.depth ≤ 60 ∧ d.shown.length ≤ sizeLine ∧ Q (.str d.shown) H
theorem cr_repr {X : Cx} (hg : X.A.guards = some []) (hu : X.A.units + 64 < cLine) : CallR X (.builtin "repr") (rRepr X.K) := by
  intro pins s σ H xs us Q I r ⟨x, d, e, hp, h1, h2, h3, h4, q⟩
  subst e
  obtain ⟨u, rfl, ru⟩ := vals1 r
  obtain ⟨as, rd⟩ := Dp.reads I d x u hp ru
  have fin : ∀ (h' : Heap) (t : Tok) (tk : Nat), (∀ b o, s.heap.get? b = some o → h'.get? b = some o) → EP X pins σ Q (.str d.shown t) { s with heap := h', toks := tk } := fun h' t tk k => ⟨.str d.shown, H, I.kept k, ⟨t, rfl⟩, q⟩
  cases hp with
  | non => obtain rfl := ru; exact PySem.P.repr_of_none (fin s.heap _ _ fun _ _ e => e)
  | bl b => obtain rfl := ru; exact PySem.P.repr_of_bool (fin s.heap _ _ fun _ _ e => e)
  | int i =>
    obtain ⟨t, rfl⟩ := ru
    refine PySem.P.repr_of_int (by simpa [PyData.showable] using h1) (fin s.heap _ _ fun _ _ e => e)
  | str z => obtain ⟨t, rfl⟩ := ru; exact PySem.P.repr_of_str (fin s.heap _ _ fun _ _ e => e) h4
  | lst h h' => obtain rfl := ru; exact PySem.repr_of_reads' rd h1 (PySem.PyData.noDict_hsm h2) hg (by omega) (fun _ _ e => e) (fun h' u tk k => fin h' u tk k) h4
  | tup h h' => obtain rfl := ru; exact PySem.repr_of_reads' rd h1 (PySem.PyData.noDict_hsm h2) hg (by omega) (fun _ _ e => e) (fun h' u tk k => fin h' u tk k) h4
mutual
theorem py_noDict : ∀ d : D, d.py.hasDict = false
  | .non => rfl | .bl _ => rfl | .int _ => rfl | .str _ => rfl | .jar => rfl | .v _ => rfl | .dic _ => rfl | .ins _ _ => rfl
  | .tup ds => pys_noDict ds
  | .lst ds => pys_noDict ds
  | .rls ds => pys_noDict ds
theorem pys_noDict : ∀ ds : List D, PyData.hasDictAll (D.pys ds) = false
  | [] => rfl
  | d :: ds => by
    show (PyData.hasDict d.py || PyData.hasDictAll (D.pys ds)) = false
    rw [py_noDict d, pys_noDict ds]; rfl
end
def D.okRepr (d : D) : Prop := d.isPy = true ∧ d.py.showable = true ∧ d.py.depth ≤ 60 ∧ d.py.shown.length ≤ sizeLine
def fRepr (ds : List D) (R : S → Prop) : Prop := match ds with
  | [d] => d.okRepr ∧ R (.d (.str d.py.shown))
  | _ => False
theorem cd_repr : CaD K (rRepr K) fRepr := by
  intro G W ρ σ H ds xs R Q ok h f k
  match ds, h, f with
  | [d], .cons (x := x) h1 .nil, ⟨⟨f1, f2, f3, f4⟩, f⟩ =>
    exact ⟨x, d.py, rfl, h1.dp f1, f2, py_noDict d, f3, f4, k _ _ _ _ f (.refl ok) (.of (.str _))⟩
/-! ### isinstance with a built-in class -/
def D.tyName : D → Option String
  | .non => some "NoneType"
  | .bl _ => some "bool"
  | .int _ => some "int"
  | .str _ => some "str"
  | .tup _ => some "tuple"
  | .lst _ => some "list"
  | .rls _ => some "list"
  | .dic _ => some "dict"
  | _ => none
def fIsi (ds : List D) (R : S → Prop) : Prop := match ds with
  | [d, .v (.ty n)] => ∃ t b, d.tyName = some t ∧ kitB t n = some b ∧ R (.d (.bl b))
  | _ => False
theorem SeqT.ty {W : Wd} {H : Hp} {a : Addr} {xs : List V} (h : SeqT K W H a xs) : TyX K H (.ref a) (.type "tuple") := by
  rcases h with ⟨_, h | ⟨o, h⟩⟩ | ⟨o, its, n, h1, h2, _⟩
  · exact .base (.tup h)
  · exact .fTuple h
  · exact .kTuple h1 h2
theorem SeqL.ty {W : Wd} {H : Hp} {a : Addr} {xs : List V} (h : SeqL K W H a xs) : TyX K H (.ref a) (.type "list") := by
  rcases h with ⟨_, h | ⟨o, h⟩⟩ | ⟨o, its, n, h1, h2, _⟩
  · exact .base (.lst h)
  · exact .base (.frz h)
  · exact .kList h1 h2
theorem Dn.ty {W : Wd} {H : Hp} {d : D} {x : V} {t : String} (h : Dn K W H d x) (e : d.tyName = some t) : TyX K H x (.type t) := by
  cases h <;> first | (cases e; done) | skip
  · cases e; exact .base .non
  · cases e; exact .base (.bl _)
  · cases e; exact .base (.int _)
  · cases e; exact .base (.str _)
  · cases e; exact SeqT.ty ‹_›
  · cases e; exact .base (.lst ‹_›)
  · cases e; exact SeqL.ty ‹_›
  · cases e; exact .base (.dK ‹_›)
theorem cd_isi : CaD K (rIsi K) fIsi := by
  intro G W ρ σ H ds xs R Q ok h f k
  match ds, h, f with
  | [d, .v (.ty n)], .cons (x := x) h1 (.cons (.v _) .nil), ⟨t, b, f1, f2, f⟩ =>
    exact ⟨x, .ty n, _, _, b, rfl, .ty n, h1.ty f1, kit_ty f2, k _ _ _ _ f (.refl ok) (.of (.bl _))⟩
end
end DL

/-! DL3: statements, loops, comprehensions. -/
namespace DL
open PySem PySem.Spec L2
section
variable {K : PySem.W.Frag} {G : Gx} {T : WX} {σ : L2.St} {ρ ρ1 : Rho} {W W1 : Wd} {H H1 : Hp}
/-! ### slots are stored -/
theorem Ok.set (ok : Ok K G W ρ σ H) {i : Nat} {d : S} {x : V} (r : Rs K W H d x) (f : d.isOwn = true → ∀ p, x = .ref p → ¬ W.F p ∧ ¬ W.J p ∧ G.H p = none ∧ ¬ Ow ρ σ p) : Ok K G W (ρ.set i (some d)) (σ.set i (some x)) H := by
  have cs : ∀ {j : Nat} {e : S}, (ρ.set i (some d))[j]? = some (some e) → (i = j ∧ d = e ∧ (σ.set i (some x))[j]? = some (some x)) ∨ (i ≠ j ∧ ρ[j]? = some (some e) ∧ (σ.set i (some x))[j]? = σ[j]?) := fun {j e} h => by
    rcases set_get h with ⟨z1, z2⟩ | ⟨z1, z2⟩
    · cases z2; subst z1
      refine .inl ⟨rfl, rfl, ?_⟩
      have hl : i < ρ.length := by
        have := (List.getElem?_eq_some_iff.mp h).1
        rwa [List.length_set] at this
      rw [List.getElem?_set_self (by rw [ok.len]; exact hl)]
    · exact .inr ⟨z1, z2, List.getElem?_set_ne z1⟩
  have ow : ∀ {j : Nat} {e : S} {a : Addr}, ρ[j]? = some (some e) → e.isOwn = true → σ[j]? = some (some (.ref a)) → Ow ρ σ a := fun h1 h2 h3 => ⟨_, _, h1, h2, h3⟩
  refine ⟨by rw [List.length_set, List.length_set, ok.len], fun j e h => ?_, fun a ⟨j, e, h1, h2, h3⟩ => ?_, fun j l e e' a h1 h2 o1 o2 s1 s2 => ?_, ok.al, ok.en⟩
  · rcases cs h with ⟨_, q, s⟩ | ⟨_, q, s⟩
    · subst q; exact ⟨x, s, r⟩
    · rw [s]; exact ok.val j e q
  · rcases cs h1 with ⟨_, q, s⟩ | ⟨_, q, s⟩
    · subst q; rw [s] at h3; cases h3
      obtain ⟨a1, a2, a3, _⟩ := f h2 a rfl
      exact ⟨a1, a2, a3⟩
    · rw [s] at h3; exact ok.frs a (ow q h2 h3)
  · rcases cs h1 with ⟨z1, q1, t1⟩ | ⟨z1, q1, t1⟩
    · subst q1; rw [t1] at s1; cases s1
      rcases cs h2 with ⟨z2, q2, t2⟩ | ⟨z2, q2, t2⟩
      · exact z1.symm.trans z2
      · rw [t2] at s2
        exact absurd (ow q2 o2 s2) (f o1 a rfl).2.2.2
    · rw [t1] at s1
      rcases cs h2 with ⟨z2, q2, t2⟩ | ⟨z2, q2, t2⟩
      · subst q2; rw [t2] at s2; cases s2
        exact absurd (ow q1 o1 s1) (f o2 a rfl).2.2.2
      · rw [t2] at s2
        exact ok.inj j l e e' a q1 q2 o1 o2 s1 s2
/-- a value that has come since ok0, the slots' values as they were -/
theorem Go.fr (ok0 : Ok K G W ρ σ H) (g : Go K G σ ρ W H ρ1 W1 H1) {d : S} {x : V} (r : Res K H W1 H1 d x) : d.isOwn = true → ∀ p, x = .ref p → ¬ W1.F p ∧ ¬ W1.J p ∧ G.H p = none ∧ ¬ Ow ρ1 σ p := fun o p e => by
  obtain ⟨a, b, c⟩ := r.fr o p e
  refine ⟨a, b, ok0.upG c, fun q => ?_⟩
  obtain ⟨u, hu⟩ := ok0.here (g.sub p q)
  rw [c] at hu
  cases hu
theorem Go.set (ok0 : Ok K G W ρ σ H) (g : Go K G σ ρ W H ρ1 W1 H1) {d : S} {x : V} (r : Res K H W1 H1 d x) (i : Nat) : Ok K G W1 (ρ1.set i (some d)) (σ.set i (some x)) H1 :=
  g.ok.set r.rs (g.fr ok0 r)
/-- a value kept over a further evaluation -/
theorem Res.go {ρ2 : Rho} {W2 : Wd} {H2 : Hp} (ok0 : Ok K G W ρ σ H) (g : Go K G σ ρ W H ρ1 W1 H1) (g2 : Go K G σ ρ1 W1 H1 ρ2 W2 H2) {d : S} {x : V} (r : Res K H W1 H1 d x) : Res K H W2 H2 d x := by
  have nO : d.isOwn = true → ∀ p, x = .ref p → H2 p = H1 p ∧ ¬ W2.F p ∧ ¬ W2.J p := fun o p e => by
    obtain ⟨a, b, c, n⟩ := g.fr ok0 r o p e
    obtain ⟨q, u, e1, e2⟩ := r.rs.ow o
    rw [e] at e1; cases e1
    refine ⟨by rw [e2]; exact g2.stp.st p u e2 b n, fun z => ?_, fun z => ?_⟩
    · rcases g2.stp.nF p z with y | y | y
      · exact a y
      · rw [e2] at y; cases y
      · exact n y
    · rcases g2.stp.nJ p z with y | y
      · exact b y
      · rw [e2] at y; cases y
  exact ⟨r.rs.le g2.stp.le fun o p e => (nO o p e).1, fun o p e => ⟨(nO o p e).2.1, (nO o p e).2.2, (r.fr o p e).2.2⟩⟩
end
section
variable {X : Cx} {G : Gx} {T : WX} {a b c e : Expr} {w wa wb wc : WE} {t : WT} {u v : WS} {pos p : Pos} {st : Stmt} {rest : List Stmt}
/-! ### blocks and small statements -/
def wNext : WS := fun E ρ => E.nx ρ
def wSeq (u v : WS) : WS := fun E ρ => u { E with nx := v E } ρ
theorem dss_nil : DSs X G T [] wNext := pss_weak pss_nil fun D σ H ⟨W, ρ, E, ok, h, hn, _⟩ => hn ρ W σ H h ok (.refl _ _)
theorem lS_on {K : PySem.W.Frag} {σ : L2.St} {ρ1 : Rho} {W W1 : Wd} {H H1 : Hp} {D : Ends} {E : DEnds} (ok1 : Ok K G W1 ρ1 σ H1) (l : Le W H W1 H1) (h : u E ρ1) (hn : lN K G E.nx D.nx W H) (hr : lR K G E.rt D.rt W H) (hb : lN K G E.bk D.bk W H) (hc : lN K G E.ct D.ct W H) (hx : lX K G T E.ex W H) :
    lS K G T u D σ H1 := ⟨W1, ρ1, E, ok1, h, hn.le l, hr.le l, hb.le l, hc.le l, hx.le l⟩
theorem dss_cons (h1 : DS X G T st u) (h2 : DSs X G T rest v) : DSs X G T (st :: rest) (wSeq u v) :=
  pss_weak (pss_cons h1 h2) fun D σ H ⟨W, ρ, E, ok, h, hn, hr, hb, hc, hx⟩ => ⟨W, ρ, { E with nx := v E }, ok, h, fun ρ' W' σ' H' h' ok' l => lS_on ok' l h' hn hr hb hc hx, hr, hb, hc, hx⟩
theorem dss_one (h1 : DS X G T st u) : DSs X G T [st] u := pss_one h1
def wBrk : WS := fun E ρ => E.bk ρ
def wCnt : WS := fun E ρ => E.ct ρ
theorem ds_pass : DS X G T (.Pass pos) wNext := ps_weak ps_pass fun D σ H ⟨W, ρ, E, ok, h, hn, _⟩ => hn ρ W σ H h ok (.refl _ _)
theorem ds_break : DS X G T (.Break pos) wBrk := ps_weak ps_break fun D σ H ⟨W, ρ, E, ok, h, _, _, hb, _⟩ => hb ρ W σ H h ok (.refl _ _)
theorem ds_continue : DS X G T (.Continue pos) wCnt := ps_weak ps_continue fun D σ H ⟨W, ρ, E, ok, h, _, _, _, hc, _⟩ => hc ρ W σ H h ok (.refl _ _)
def wDrop (w : WE) : WS := fun E ρ => w E.ex ρ fun _ ρ' => E.nx ρ'
theorem ds_expr (he : DE X G T e w) (hs : swapsWith e none pos.line X.env = pure false := by rfl) : DS X G T (.Expr e pos) (wDrop w) :=
  ps_weak (ps_expr he hs) fun D σ H ⟨W, ρ, E, ok, h, hn, hr, hb, hc, hx⟩ => ⟨W, ρ, _, E.ex, ok, h, fun d ρ' W' x H' h' g _ => hn ρ' W' σ H' h' g.ok g.stp.le, hx.z σ ρ⟩
def wRet (w : WE) : WS := fun E ρ => w E.ex ρ fun d _ => E.rt d
theorem ds_ret (he : DE X G T e w) : DS X G T (.Return (some e) pos) (wRet w) :=
  ps_weak (ps_ret he) fun D σ H ⟨W, ρ, E, ok, h, hn, hr, hb, hc, hx⟩ => ⟨W, ρ, _, E.ex, ok, h, fun d ρ' W' x H' h' g r => hr d ρ' W' σ x H' h' g.ok g.stp.le (r.up ok.en.up), hx.z σ ρ⟩
def wRetN : WS := fun E _ => E.rt (.d .non)
theorem ds_retN : DS X G T (.Return none pos) wRetN :=
  ps_weak ps_retN fun D σ H ⟨W, ρ, E, ok, h, hn, hr, hb, hc, hx⟩ => hr _ ρ W σ .non H h ok (.refl _ _) (.of .non)
def wIf (t : WT) (u v : WS) : WS := fun E ρ => t E.ex ρ fun c ρ1 => if c = true then u E ρ1 else v E ρ1
theorem ds_if {c : Expr} {a b : List Stmt} (hc : DT X G T c t) (ha : DSs X G T a u) (hb : DSs X G T b v) : DS X G T (.If c a b pos) (wIf t u v) :=
  ps_weak (ps_if hc ha hb) fun D σ H ⟨W, ρ, E, ok, h, hn, hr, hb, hc, hx⟩ => lT_then ok h (hx.z σ ρ) fun c ρ1 W1 H1 hh g => by
    cases c with
    | true => exact lS_on g.ok g.stp.le hh hn hr hb hc hx
    | false => exact lS_on g.ok g.stp.le hh hn hr hb hc hx
def wSet (i : Nat) (w : WE) : WS := fun E ρ => w E.ex ρ fun d ρ' => E.nx (ρ'.set i (some d))
theorem lS_set {K : PySem.W.Frag} {σ : L2.St} {H : Hp} {D : Ends} {i : Nat} {te : TE} (ht : ∀ Q, lE K G T w σ H Q → te σ H Q) (h : lS K G T (wSet i w) D σ H) : tAsg te (gName i) D σ H := by
  obtain ⟨W, ρ, E, ok, h, hn, hr, hb, hc, hx⟩ := h
  exact ht _ ⟨W, ρ, _, E.ex, ok, h, fun d ρ' W' x H' h' g r => hn _ W' _ H' h' (g.set ok r i) g.stp.le, hx.z σ ρ⟩
theorem ds_set {i : Nat} {x : Str} {pos' : Pos} (hN : X.N.Nodup) (he : DE X G T e w) (hi : X.N[i]? = some x := by rfl) (hx : Loc X.env.scope x := by first | exact .inl rfl | exact .inr rfl) (hs : swapsWith e (some (.Name x pos')) pos.line X.env = pure false := by rfl) (hf : X.fn x = true ∨ X.env.scope.names.lookup x = some .local := by first | exact .inr rfl | exact .inl rfl | assumption) :
    DS X G T (.Assign [.Name x pos'] e pos) (wSet i w) :=
  ps_weak (ps_set hN hi hx he hs hf) fun D σ H h => lS_set (fun _ q => q) h
/-- a, b = x, y -/
def wPar (i j : Nat) (wa wb : WE) : WS := fun E ρ => wa E.ex ρ fun x ρ1 => wb E.ex ρ1 fun y ρ2 => E.nx ((ρ2.set i (some x)).set j (some y))
theorem lS_par {K : PySem.W.Frag} {σ : L2.St} {H : Hp} {D : Ends} {i j : Nat} (h : lS K G T (wPar i j wa wb) D σ H) : lE K G T wa σ H fun x H1 => lE K G T wb σ H1 fun y H2 => D.nx ((σ.set i (some x)).set j (some y)) H2 := by
  obtain ⟨W, ρ, E, ok, h, hn, hr, hb, hc, hx⟩ := h
  refine ⟨W, ρ, _, E.ex, ok, h, fun d ρ1 W1 x H1 h1 g r => ?_, hx.z σ ρ⟩
  refine ⟨W1, ρ1, _, E.ex, g.ok, h1, fun e ρ2 W2 y H2 h2 g2 r2 => ?_, (hx.z σ ρ).go g⟩
  have r' := r.go ok g g2
  have g12 := g.trans g2
  have ok1 := g12.set ok r' i
  refine hn _ W2 _ H2 h2 (ok1.set r2.rs fun o p ep => ?_) g12.stp.le
  obtain ⟨a, b, c, n⟩ := g2.fr g.ok r2 o p ep
  refine ⟨a, b, c, fun ⟨l, f, f1, f2, f3⟩ => ?_⟩
  rcases set_get f1 with ⟨z1, z2⟩ | ⟨z1, z2⟩
  · cases z2; subst z1
    have hl : i < (σ.set i (some x)).length := (List.getElem?_eq_some_iff.mp f3).1
    rw [List.length_set] at hl
    rw [List.getElem?_set_self hl] at f3
    cases f3
    obtain ⟨q, u, e1, e2⟩ := r.rs.ow f2
    cases e1
    have := (r2.fr o p ep).2.2
    rw [e2] at this; cases this
  · rw [List.getElem?_set_ne z1] at f3
    exact n ⟨l, f, z2, f2, f3⟩
theorem ds_par {i j : Nat} {x y : Str} {px py pt : Pos} {kt k2 pt2} (hN : X.N.Nodup) (ha : DE X G T a wa) (hb : DE X G T b wb) (hc : X.calm = true := by rfl) (hi : X.N[i]? = some x := by rfl) (hj : X.N[j]? = some y := by rfl) (hij : i ≠ j := by decide)
    (hx : X.env.scope.names.lookup x = some .local := by rfl) (hy : X.env.scope.names.lookup y = some .local := by rfl)
    (hw : swappedStores [.Tuple [.Name x px, .Name y py] kt pt] (.Tuple [a, b] k2 pt2) X.env = pure (some [x, y]) := by rfl)
    (hs : swapsWithSole [.Tuple [.Name x px, .Name y py] kt pt] (.Tuple [a, b] k2 pt2) pos.line X.env = pure false := by rfl)
    (hsa : starEach (a :: [b]) X.env = (false, eval a X.env) :: starEach [b] X.env := by rfl) (hsb : starEach [b] X.env = (false, eval b X.env) :: starEach [] X.env := by rfl) :
    DS X G T (.Assign [.Tuple [.Name x px, .Name y py] kt pt] (.Tuple [a, b] k2 pt2) pos) (wPar i j wa wb) :=
  ps_weak (L2.ps_par (ta := tCons (lE X.K G T wa) (tCons (lE X.K G T wb) tNil)) hc hN hi hj hij hx hy (pa_cons ha (pa_cons hb pa_nil hsb) hsa) hw hs) fun D σ H h => by
    have q := lS_par h
    obtain ⟨W, ρ, R, Z, ok, h, h1, hZ⟩ := q
    refine ⟨W, ρ, R, Z, ok, h, fun d ρ1 W1 x H1 hr g r => ?_, hZ⟩
    obtain ⟨W', ρ', R', Z', ok', h', h1', hZ'⟩ := h1 d ρ1 W1 x H1 hr g r
    exact ⟨W', ρ', R', Z', ok', h', fun d ρ1 W1 y H1 hr g r => ⟨x, y, rfl, h1' d ρ1 W1 y H1 hr g r⟩, hZ'⟩
/-! ### while -/
def wWhileN (t : WT) (b : WS) (E : DEnds) : Nat → Rho → Prop
  | 0 => fun _ => False
  | n + 1 => fun ρ => t E.ex ρ fun c ρ1 => if c = true then b { E with nx := wWhileN t b E n, ct := wWhileN t b E n, bk := E.nx } ρ1 else E.nx ρ1
def wWhile (t : WT) (b : WS) : WS := fun E ρ => ∃ n, wWhileN t b E n ρ
theorem ds_while {c : Expr} {body : List Stmt} (hp : PassesOwn (model X.prog X.w) X.A X.env X.xe) (hc : DT X G T c t) (hb : DSs X G T body u) : DS X G T (.While c body [] pos) (wWhile t u) :=
  ps_weak (ps_while hp hc hb) fun D σ H ⟨W, ρ, E, ok, ⟨n, h⟩, hn, hr, hb, hc, hx⟩ => by
    refine ⟨fun m σ' H' => ∃ W' ρ', Ok X.K G W' ρ' σ' H' ∧ wWhileN t u E m ρ' ∧ Le W H W' H', ⟨n, W, ρ, ok, h, .refl _ _⟩, fun m σ' H' ⟨W', ρ', ok', h', l⟩ => ?_⟩
    cases m with
    | zero => exact h'.elim
    | succ m =>
      refine lT_then ok' h' ((hx.le l).z σ' ρ') fun c ρ1 W1 H1 hh g => ?_
      have l1 := l.trans g.stp.le
      cases c with
      | false => exact hn ρ1 W1 σ' H1 hh g.ok l1
      | true =>
        refine ⟨fun σ2 H2 => ∃ W' ρ', Ok X.K G W' ρ' σ2 H2 ∧ wWhileN t u E m ρ' ∧ Le W H W' H2, fun σ2 H2 q => ⟨m, Nat.lt_succ_self m, q⟩, ?_⟩
        have hN : lN X.K G (wWhileN t u E m) (fun σ2 H2 => ∃ W' ρ', Ok X.K G W' ρ' σ2 H2 ∧ wWhileN t u E m ρ' ∧ Le W H W' H2) W H := fun ρ2 W2 σ2 H2 q o l => ⟨W2, ρ2, o, q, l⟩
        exact lS_on (E := { E with nx := wWhileN t u E m, ct := wWhileN t u E m, bk := E.nx }) g.ok l1 hh hN hr hn hN hx
/-! ### targets that are names -/
def stores : L2.St → List Nat → List V → L2.St
  | σ, i :: is, x :: xs => stores (σ.set i (some x)) is xs
  | σ, _, _ => σ
def storesR : Rho → List (Nat × D) → Rho
  | ρ, (i, d) :: l => storesR (ρ.set i (some (.d d))) l
  | ρ, [] => ρ
theorem Ok.stores {K : PySem.W.Frag} {W : Wd} {H : Hp} : ∀ {l : List (Nat × D)} {ρ : Rho} {σ : L2.St} {xs : List V}, Ok K G W ρ σ H → DnA K W H (l.map (·.2)) xs → Ok K G W (storesR ρ l) (stores σ (l.map (·.1)) xs) H
  | [], _, _, _, ok, _ => ok
  | (i, d) :: l, ρ, σ, _, ok, .cons h1 h2 => Ok.stores (l := l) (ok.set (i := i) (d := .d d) h1 fun o => by cases o) h2
/-- the target tg of slots alone -/
def TgtL (X : Cx) (tg : Expr) (f : D → (List (Nat × D) → Prop) → Prop) (g : TG) : Prop := PG X tg g ∧
  ∀ (W : Wd) (H : Hp) (x : V) (d : D) (σ : L2.St) (Q : L2.St → Hp → Prop) (N : List (Nat × D) → Prop), Dn X.K W H d x → f d N → (∀ l xs, N l → DnA X.K W H (l.map (·.2)) xs → Q (stores σ (l.map (·.1)) xs) H) → g x σ H Q
def fName (i : Nat) (d : D) (N : List (Nat × D) → Prop) : Prop := N [(i, d)]
theorem tg_name {i : Nat} {x : Str} (hN : X.N.Nodup) (hi : X.N[i]? = some x := by rfl) (hx : Loc X.env.scope x := by first | exact .inl rfl | exact .inr rfl) (hf : X.fn x = true ∨ X.env.scope.names.lookup x = some .local := by first | exact .inr rfl | exact .inl rfl | assumption) :
    TgtL X (.Name x pos) (fName i) (gName i) :=
  ⟨pg_name hN hi hx hf, fun W H x d σ Q N h f k => k _ [x] f (.cons h .nil)⟩
/-- (x, y, ..): names -/
def fTupN (is : List Nat) (d : D) (N : List (Nat × D) → Prop) : Prop := match d with
  | .tup ds => ds.length = is.length ∧ N (is.zip ds)
  | _ => False
def gNames : List Nat → TGs
  | [] => gNil
  | i :: is => gCons (gName i) (gNames is)
theorem gNames_ok {K : PySem.W.Frag} {W : Wd} {H : Hp} : ∀ {is : List Nat} {ds : List D} {xs : List V} {σ : L2.St} {Q : L2.St → Hp → Prop}, DnA K W H ds xs → ds.length = is.length → Q (stores σ is xs) H → gNames is xs σ H Q
  | [], [], _, _, _, .nil, _, q => ⟨rfl, q⟩
  | i :: is, d :: ds, _, _, _, .cons h1 h2, e, q => ⟨_, _, rfl, gNames_ok h2 (by simpa using e) q⟩
  | [], _ :: _, _, _, _, _, e, _ => by simp at e
  | _ :: _, [], _, _, _, _, e, _ => by simp at e
theorem zip_maps : ∀ {is : List Nat} {ds : List D}, ds.length = is.length → (is.zip ds).map (·.1) = is ∧ (is.zip ds).map (·.2) = ds
  | [], [], _ => ⟨rfl, rfl⟩
  | i :: is, d :: ds, e => by
    obtain ⟨a, b⟩ := zip_maps (is := is) (ds := ds) (by simpa using e)
    exact ⟨by simp [a], by simp [b]⟩
  | [], _ :: _, e => by simp at e
  | _ :: _, [], e => by simp at e
theorem pgs_nm {i : Nat} {x : Str} {is : List Nat} {es : List Expr} (hN : X.N.Nodup) (h2 : PGs X es (gNames is)) (hi : X.N[i]? = some x := by rfl) (hx : Loc X.env.scope x := by first | exact .inl rfl | exact .inr rfl) (hf : X.fn x = true ∨ X.env.scope.names.lookup x = some .local := by first | exact .inr rfl | exact .inl rfl | assumption)
    (hs : (assignEach (.Name x pos :: es) X.env).map (·.2) = assign (.Name x pos) X.env :: (assignEach es X.env).map (·.2) := by rfl) : PGs X (.Name x pos :: es) (gNames (i :: is)) := pgs_cons (pg_name hN hi hx hf) h2 hs
theorem pgs_nm0 : PGs X [] (gNames []) := pgs_nil
theorem tg_tup {es : List Expr} {k : Nat} {is : List Nat} (h : PGs X es (gNames is)) (hc : X.calm = true := by rfl) (hn : (assignEach es X.env).length = is.length := by rfl) (hst : (assignEach es X.env).findIdx? (·.1) = none := by rfl) : TgtL X (.Tuple es k pos) (fTupN is) (gTup X.K is.length (gNames is)) :=
  ⟨pg_tup hc h hn hst, fun W H x d σ Q N hd f q => by
    cases hd <;> first | exact f.elim | skip
    rename_i h1 h2
    obtain ⟨e1, e2⟩ := zip_maps f.1
    refine ⟨_, _, rfl, SeqT.sq h1, by rw [← h2.length]; exact f.1, gNames_ok h2 f.1 ?_⟩
    have := q _ _ f.2 (by rw [e2]; exact h2)
    rwa [e1] at this⟩
/-- target = value, the target of names -/
def wAsgN (f : D → (List (Nat × D) → Prop) → Prop) (w : WE) : WS := fun E ρ => w E.ex ρ fun d ρ' => f d.frz fun l => E.nx (storesR ρ' l)
theorem ds_asgN {tg : Expr} {f : D → (List (Nat × D) → Prop) → Prop} {g : TG} (he : DE X G T e w) (hg : TgtL X tg f g) (hs : swapsWithSole [tg] e pos.line X.env = pure false := by rfl) (hw : swappedStores [tg] e X.env = pure none := by rfl)
    (h1 : (assignEach [tg] X.env).map (·.2) = [assign tg X.env] := by rfl) : DS X G T (.Assign [tg] e pos) (wAsgN f w) :=
  ps_weak (ps_asg he hg.1 hs hw h1) fun D σ H ⟨W, ρ, E, ok, h, hn, hr, hb, hc, hx⟩ => by
    refine lE_then (R := fun d ρ' => f d fun l => E.nx (storesR ρ' l)) ok h (hx.z σ ρ) fun d ρ1 W1 x H1 h1 g1 d1 => ?_
    exact hg.2 W1 H1 x d σ _ _ d1 h1 fun l xs hl da => hn _ W1 _ H1 hl (g1.ok.stores da) g1.stp.le
/-! ### what is walked -/
/-- the iterator J hands out the items ds, whatever grows meanwhile -/
def ItOk (K : PySem.W.Frag) (W : Wd) (H : Hp) (J : It) (ds : List D) : Prop := ∀ (i : Nat) (W1 : Wd) (H1 : Hp), Le W H W1 H1 → Al W1 H1 →
  (ds.length ≤ i → J.stop i H1) ∧ ∀ d, ds[i]? = some d → J.go i H1 ∧ ∀ x H2, J.yld i H1 x H2 → ∃ W2, Step no1 W1 H1 W2 H2 ∧ Al W2 H2 ∧ Dn K W2 H2 d x
abbrev WI := ZK → Rho → (List D → Rho → Prop) → Prop
def lI (K : PySem.W.Frag) (G : Gx) (T : WX) (wi : WI) : TI := fun σ H R => ∃ (W : Wd) (ρ : Rho) (N : List D → Rho → Prop) (Z : ZK), Ok K G W ρ σ H ∧ wi Z ρ N ∧
  (∀ ds ρ' W' H' J, N ds ρ' → Go K G σ ρ W H ρ' W' H' → ItOk K W' H' J ds → R J H') ∧ lZ K G T Z σ ρ W H
def DI (X : Cx) (G : Gx) (T : WX) (tg iter : Expr) (wi : WI) : Prop := PI X tg iter (lI X.K G T wi)
theorem pi_weak {X : Cx} {tg e : Expr} {t t' : TI} (h : PI X tg e t) (i : ∀ σ H R, t' σ H R → t σ H R) : PI X tg e t' := ⟨fun p s σ H Q I q => h.run p s σ H Q I (i σ H Q q)⟩
def wItems (w : WE) : WI := fun Z ρ N => w Z ρ fun d ρ' => ∃ ds, d.frz.items = some ds ∧ N ds ρ'
def wItL (w : WE) : WI := fun Z ρ N => w Z ρ fun d ρ' => match d.frz with
  | .lst ds => N ds ρ'
  | .rls ds => N ds ρ'
  | _ => False
def wItT (w : WE) : WI := fun Z ρ N => w Z ρ fun d ρ' => match d.frz with
  | .tup ds => N ds ρ'
  | _ => False
theorem itl_ok {K : PySem.W.Frag} {W : Wd} {H : Hp} {a : Addr} {xs : List V} {ds : List D} (hs : ∀ W1 H1, Le W H W1 H1 → SqL K H1 a xs) (da : DnA K W H ds xs) : ItOk K W H (Itl K a) ds := fun i W1 H1 l al => by
  refine ⟨fun h => ⟨xs, hs W1 H1 l, by rw [← da.length]; exact h⟩, fun d hd => ?_⟩
  obtain ⟨x, e1, e2⟩ := da.get hd
  refine ⟨⟨xs, x, hs W1 H1 l, e1⟩, fun y H2 ⟨e, q⟩ => ?_⟩
  subst e
  have := q xs (hs W1 _ l)
  rw [e1] at this
  cases this
  exact ⟨W1, .refl _ _ _, al, e2.le l⟩
theorem itt_ok {K : PySem.W.Frag} {W : Wd} {H : Hp} {a : Addr} {xs : List V} {ds : List D} (hs : ∀ W1 H1, Le W H W1 H1 → SqT K H1 a xs) (da : DnA K W H ds xs) : ItOk K W H (Itt K a) ds := fun i W1 H1 l al => by
  refine ⟨fun h => ⟨xs, hs W1 H1 l, by rw [← da.length]; exact h⟩, fun d hd => ?_⟩
  obtain ⟨x, e1, e2⟩ := da.get hd
  refine ⟨⟨xs, x, hs W1 H1 l, e1⟩, fun y H2 ⟨e, q⟩ => ?_⟩
  subst e
  have := q xs (hs W1 _ l)
  rw [e1] at this
  cases this
  exact ⟨W1, .refl _ _ _, al, e2.le l⟩
theorem di_list {tg : Expr} (he : DE X G T e w) : DI X G T tg e (wItL w) :=
  pi_weak (pi_list he) fun σ H R ⟨W, ρ, N, Z, ok, h, hN, hZ⟩ => by
    refine lE_then (R := fun d ρ' => match d with | .lst ds => N ds ρ' | .rls ds => N ds ρ' | _ => False) ok h hZ fun d ρ1 W1 x H1 h1 g1 d1 => ?_
    cases d1 <;> first | exact h1.elim | skip
    · rename_i a ds vs f e da
      refine ⟨a, rfl, ⟨vs, SqL.of e⟩, hN _ _ _ _ _ h1 g1 (itl_ok (fun W2 H2 l => SqL.of ((l.k a f).trans e)) da)⟩
    · rename_i a ds vs e da
      exact ⟨a, rfl, ⟨vs, e.sq⟩, hN _ _ _ _ _ h1 g1 (itl_ok (fun W2 H2 l => (e.le l).sq) da)⟩
theorem di_tup {tg : Expr} (he : DE X G T e w) : DI X G T tg e (wItT w) :=
  pi_weak (pi_tup he) fun σ H R ⟨W, ρ, N, Z, ok, h, hN, hZ⟩ => by
    refine lE_then (R := fun d ρ' => match d with | .tup ds => N ds ρ' | _ => False) ok h hZ fun d ρ1 W1 x H1 h1 g1 d1 => ?_
    cases d1 <;> first | exact h1.elim | skip
    rename_i a ds vs e da
    exact ⟨a, rfl, ⟨vs, e.sq⟩, hN _ _ _ _ _ h1 g1 (itt_ok (fun W2 H2 l => (e.le l).sq) da)⟩
/-- a list or a tuple -/
def iSeq (K : PySem.W.Frag) (tl : TE) : TI := fun σ H R => tl σ H fun x H1 => ∃ a, x = .ref a ∧ (((∃ xs, SqL K H1 a xs) ∧ R (Itl K a) H1) ∨ ((∃ xs, SqT K H1 a xs) ∧ R (Itt K a) H1))
theorem pi_seq {tg l : Expr} {tl : TE} (hl : PE X l tl) : PI X tg l (iSeq X.K tl) := by
  constructor
  intro pins s σ H R I h
  refine thn (hl.run pins s σ H _ I h) fun v t ⟨x, H1, J, rv, a, ea, q⟩ => ?_
  subst ea
  cases rv
  have fr : ∀ b ∈ [t.heap.objs.size], FpOk X pins H1 b := fun b hb => by
    cases List.mem_singleton.mp hb
    exact J.fpOk (Nat.le_refl _) (J.hok.fresh (Nat.le_refl _))
  rcases q with ⟨⟨xs, hq⟩, q⟩ | ⟨⟨xs, hq⟩, q⟩
  · obtain ⟨its, _, pl, _⟩ := J.list hq
    exact wpAny_pyIter_list pl.isList ⟨_, [t.heap.objs.size], _, _, H1, rfl, J.kept (t' := t.toks) fun b o e => Heap.get?_push_of_some _ e, turn_list a _, ⟨_, Heap.get?_push_size _ rfl, rfl, rfl⟩, fr, q⟩
  · obtain ⟨its, _, pl, _⟩ := J.tuple hq
    exact wpAny_pyIter_tuple (show t.heap.IsTuple a its.toArray from pl) ⟨_, [t.heap.objs.size], _, _, H1, rfl, J.kept (t' := t.toks) fun b o e => Heap.get?_push_of_some _ e, turn_tuple a _, ⟨_, Heap.get?_push_size _ rfl, rfl, rfl⟩, fr, q⟩
theorem di_seq {tg : Expr} (he : DE X G T e w) : DI X G T tg e (wItems w) :=
  pi_weak (pi_seq he) fun σ H R ⟨W, ρ, N, Z, ok, h, hN, hZ⟩ => by
    refine lE_then (R := fun d ρ' => ∃ ds, d.items = some ds ∧ N ds ρ') ok h hZ fun d ρ1 W1 x H1 ⟨ds, h1, h2⟩ g1 d1 => ?_
    match d, x, d1, h1 with
    | _, _, .tup e da, rfl => exact ⟨_, rfl, .inr ⟨⟨_, e.sq⟩, hN _ _ _ _ _ h2 g1 (itt_ok (fun W2 H2 l => (e.le l).sq) da)⟩⟩
    | _, _, .lst f e da, rfl => exact ⟨_, rfl, .inl ⟨⟨_, SqL.of e⟩, hN _ _ _ _ _ h2 g1 (itl_ok (fun W2 H2 l => SqL.of ((l.k _ f).trans e)) da)⟩⟩
    | _, _, .rls e da, rfl => exact ⟨_, rfl, .inl ⟨⟨_, e.sq⟩, hN _ _ _ _ _ h2 g1 (itl_ok (fun W2 H2 l => (e.le l).sq) da)⟩⟩
/-- the ints lo, lo + 1, .. n of them -/
def rangeD (lo : Int) (n : Nat) : List D := (List.range n).map fun i => .int (lo + (i : Nat))
theorem itr_ok {K : PySem.W.Frag} {W : Wd} {H : Hp} {lo : Int} {n : Nat} : ItOk K W H (Itr lo n) (rangeD lo n) := fun i W1 H1 l al => by
  unfold rangeD
  refine ⟨fun h => (show n ≤ i by simpa using h), fun d hd => ?_⟩
  rw [List.getElem?_map] at hd
  by_cases q : i < n
  · rw [List.getElem?_range q] at hd
    cases hd
    refine ⟨q, fun y H2 ⟨e1, e2⟩ => ?_⟩
    subst e1 e2
    exact ⟨W1, .refl _ _ _, al, .int _⟩
  · rw [List.getElem?_eq_none (by simpa using q)] at hd
    cases hd
def rg1 (ds : List D) (N : List D → Prop) : Prop := match ds with
  | [.int j] => (-(2 ^ 62) ≤ j ∧ j < 2 ^ 62) ∧ N (rangeD 0 j.toNat)
  | _ => False
def rg2 (ds : List D) (N : List D → Prop) : Prop := match ds with
  | [.int i, .int j] => (-(2 ^ 62) ≤ i ∧ i < 2 ^ 62 ∧ -(2 ^ 62) ≤ j ∧ j < 2 ^ 62) ∧ N (rangeD i (j - i).toNat)
  | _ => False
def wRng (f : List D → (List D → Prop) → Prop) (u : WA) : WI := fun Z ρ N => u Z ρ fun ds ρ' => f ds fun l => N l ρ'
theorem di_range1 {tg : Expr} {ta : WA} (ha : DA X G T [a] ta) (hg : Gl X "range") (hm : X.mg "range" = none) (hs : starEach [a] X.env = [(false, eval a X.env)] := by rfl) : DI X G T tg (.Call (.Name "range" p) [a] [] pos) (wRng rg1 ta) :=
  pi_weak (pi_range1 hg hm ha hs) fun σ H R ⟨W, ρ, N, Z, ok, h, hN, hZ⟩ => ⟨W, ρ, _, Z, ok, h, fun ds ρ1 W1 xs H1 h1 g d => by
    match ds, xs, d, h1 with
    | [.int j], _, .cons (.int _) .nil, h1 => exact ⟨j, rfl, h1.1.1, h1.1.2, hN _ _ _ _ _ h1.2 g itr_ok⟩, hZ⟩
theorem di_range2 {tg : Expr} {ta : WA} (ha : DA X G T [a, b] ta) (hg : Gl X "range") (hm : X.mg "range" = none) (hs : starEach [a, b] X.env = [(false, eval a X.env), (false, eval b X.env)] := by rfl) (hs2 : starEach [b] X.env = [(false, eval b X.env)] := by rfl) : DI X G T tg (.Call (.Name "range" p) [a, b] [] pos) (wRng rg2 ta) :=
  pi_weak (pi_range2 hg hm ha hs hs2) fun σ H R ⟨W, ρ, N, Z, ok, h, hN, hZ⟩ => ⟨W, ρ, _, Z, ok, h, fun ds ρ1 W1 xs H1 h1 g d => by
    match ds, xs, d, h1 with
    | [.int i, .int j], _, .cons (.int _) (.cons (.int _) .nil), h1 => exact ⟨i, j, rfl, h1.1, hN _ _ _ _ _ h1.2 g itr_ok⟩, hZ⟩
/-! ### for -/
abbrev TgF := D → (List (Nat × D) → Prop) → Prop
def wForL (f : TgF) (b : WS) (E : DEnds) : List D → Rho → Prop
  | [] => fun ρ => E.nx ρ
  | d :: ds => fun ρ => f d fun l => b { E with nx := wForL f b E ds, ct := wForL f b E ds, bk := E.nx } (storesR ρ l)
def wFor (wi : WI) (f : TgF) (b : WS) : WS := fun E ρ => wi E.ex ρ fun ds ρ1 => wForL f b E ds ρ1
theorem ds_for {tg iter : Expr} {body : List Stmt} {wi : WI} {f : TgF} {g : TG} (hp : PassesOwn (model X.prog X.w) X.A X.env X.xe) (hi : DI X G T tg iter wi) (hg : TgtL X tg f g) (hb : DSs X G T body u) (hc : X.calm = true := by rfl)
    (hs : ∀ x, foldedSetIterable iter X.env x = pure x := by intro _; rfl) : DS X G T (.For tg iter body [] pos) (wFor wi f u) :=
  ps_weak (ps_for hp hc hi hg.1 hb hs) fun D σ H ⟨W, ρ, E, ok, h, hn, hr, hbk, hct, hx⟩ => by
    refine ⟨W, ρ, _, E.ex, ok, h, fun ds ρ1 W1 H1 J h1 g1 it => ?_, hx.z σ ρ⟩
    refine ⟨fun i m σ' H' => ∃ W' ρ', Ok X.K G W' ρ' σ' H' ∧ wForL f u E (ds.drop i) ρ' ∧ Le W1 H1 W' H' ∧ m = ds.length - i ∧ i ≤ ds.length, ⟨ds.length, W1, ρ1, g1.ok, h1, .refl _ _, rfl, Nat.zero_le _⟩, ?_⟩
    rintro i m σ' H' ⟨W', ρ', ok', h', l, rfl, hle⟩
    obtain ⟨q1, q2⟩ := it i W' H' l ok'.al
    have l0 := g1.stp.le.trans l
    by_cases hi : i < ds.length
    · obtain ⟨d, hd⟩ : ∃ d, ds[i]? = some d := ⟨ds[i], List.getElem?_eq_getElem hi⟩
      obtain ⟨go, yl⟩ := q2 d hd
      rw [List.drop_eq_getElem_cons hi] at h'
      have ed : ds[i] = d := by rw [List.getElem?_eq_getElem hi] at hd; exact Option.some.inj hd
      rw [ed] at h'
      have hN : lN X.K G (wForL f u E (ds.drop (i + 1))) (fun σ2 H2 => ∃ W2 ρ2, Ok X.K G W2 ρ2 σ2 H2 ∧ wForL f u E (ds.drop (i + 1)) ρ2 ∧ Le W1 H1 W2 H2) W' H' := fun ρ2 W2 σ2 H2 q o l2 => ⟨W2, ρ2, o, q, l.trans l2⟩
      refine .inr ⟨go, fun σ2 H2 => ∃ W2 ρ2, Ok X.K G W2 ρ2 σ2 H2 ∧ wForL f u E (ds.drop (i + 1)) ρ2 ∧ Le W1 H1 W2 H2, ?_, fun x H2 hy => ?_⟩
      · rintro σ2 H2 ⟨W2, ρ2, o, q, l2⟩
        exact ⟨ds.length - (i + 1), by omega, W2, ρ2, o, q, l2, rfl, by omega⟩
      · obtain ⟨W2, st, al2, hd2⟩ := yl x H2 hy
        have g2 := ok'.grow st al2
        refine hg.2 W2 H2 x d σ' _ _ hd2 h' fun lst xs hl da => ?_
        exact lS_on (E := { E with nx := wForL f u E (ds.drop (i + 1)), ct := wForL f u E (ds.drop (i + 1)), bk := E.nx }) (g2.ok.stores da) g2.stp.le hl hN (hr.le l0) (hn.le l0) hN (hx.le l0)
    · have e : i = ds.length := by omega
      subst e
      rw [List.drop_length] at h'
      exact .inl ⟨q1 (Nat.le_refl _), hn ρ' W' σ' H' h' ok' l0⟩
/-! ### comprehensions -/
def wipeR (ρ : Rho) : List Nat → Rho
  | [] => ρ
  | i :: is => (wipeR ρ is).set i none
abbrev noZ : ZK := fun _ _ => False
abbrev noT : WX := fun _ _ _ _ => False
/-- the slots vs hold nothing own -/
def NoOwn (ρ : Rho) (vs : List Nat) : Prop := ∀ i ∈ vs, ∀ d : S, ρ[i]? = some (some d) → d.isOwn = false
def wLcL (f : TgF) (t : WT) (e : WE) (ρ : Rho) (R : List D → Prop) : List D → List D → Prop
  | [], acc => R acc
  | d :: ds, acc => f d fun l => t noZ (storesR ρ l) fun b ρ3 => ρ3 = storesR ρ l ∧ if b = true then e noZ (storesR ρ l) fun y ρ4 => ρ4 = storesR ρ l ∧ acc.length < sizeLine ∧ wLcL f t e ρ R ds (acc ++ [y.frz]) else wLcL f t e ρ R ds acc
def wLc (wi : WI) (f : TgF) (t : WT) (e : WE) (vs : List Nat) : WE := fun Z ρ R => wi Z ρ fun ds ρ1 => NoOwn ρ1 vs ∧ wLcL f t e (wipeR ρ1 vs) (fun acc => R (.own acc) ρ1) ds []
def wYes : WT := fun _ ρ R => R true ρ
def DTs (X : Cx) (G : Gx) (T : WX) (ifs : List Expr) (w : WT) : Prop := PTs X ifs (lT X.K G T w)
theorem pts_weak {ifs : List Expr} {t t' : TT} (h : PTs X ifs t) (i : ∀ σ H Q, t' σ H Q → t σ H Q) : PTs X ifs t' := ⟨fun p s σ H Q I q => h.run p s σ H Q I (i σ H Q q)⟩
theorem dts_nil : DTs X G T [] wYes := pts_weak pts_nil fun σ H Q ⟨W, ρ, R, Z, ok, h, hR, _⟩ => hR _ _ _ _ h (.refl ok)
theorem dts_one (h : DT X G T e t) : DTs X G T [e] t := pts_one h
theorem wipe_get {σ : L2.St} {i : Nat} : ∀ {vs : List Nat}, i ∉ vs → (wipe σ vs)[i]? = σ[i]?
  | [], _ => rfl
  | v :: vs, h => by
    simp only [List.mem_cons, not_or] at h
    show ((wipe σ vs).set v none)[i]? = _
    rw [List.getElem?_set_ne (fun q => h.1 q.symm)]
    exact wipe_get h.2
theorem wipeR_some {ρ : Rho} {i : Nat} {d : S} : ∀ {vs : List Nat}, (wipeR ρ vs)[i]? = some (some d) → ρ[i]? = some (some d) ∧ i ∉ vs
  | [], h => ⟨h, by simp⟩
  | v :: vs, h => by
    have h' : ((wipeR ρ vs).set v none)[i]? = some (some d) := h
    rcases set_get h' with ⟨_, z⟩ | ⟨z1, z2⟩
    · cases z
    · obtain ⟨a, b⟩ := wipeR_some z2
      exact ⟨a, by simp only [List.mem_cons, not_or]; exact ⟨fun q => z1 q.symm, b⟩⟩
theorem wipeR_length (ρ : Rho) : ∀ vs, (wipeR ρ vs).length = ρ.length
  | [] => rfl
  | v :: vs => by show ((wipeR ρ vs).set v none).length = _; rw [List.length_set]; exact wipeR_length ρ vs
theorem Ok.wipe {K : PySem.W.Frag} {σ : L2.St} {ρ : Rho} {W : Wd} {H : Hp} (ok : Ok K G W ρ σ H) (vs : List Nat) : Ok K G W (wipeR ρ vs) (wipe σ vs) H := by
  have ow : ∀ a, Ow (wipeR ρ vs) (L2.wipe σ vs) a → Ow ρ σ a := fun a ⟨i, d, h1, h2, h3⟩ => by
    obtain ⟨a1, a2⟩ := wipeR_some h1
    rw [wipe_get a2] at h3
    exact ⟨i, d, a1, h2, h3⟩
  refine ⟨by rw [wipe_length, wipeR_length, ok.len], fun i d h => ?_, fun a h => ok.frs a (ow a h), fun i j d e a h1 h2 o1 o2 s1 s2 => ?_, ok.al, ok.en⟩
  · obtain ⟨a1, a2⟩ := wipeR_some h
    rw [wipe_get a2]
    exact ok.val i d a1
  · obtain ⟨a1, a2⟩ := wipeR_some h1
    obtain ⟨b1, b2⟩ := wipeR_some h2
    rw [wipe_get a2] at s1
    rw [wipe_get b2] at s2
    exact ok.inj i j d e a a1 b1 o1 o2 s1 s2
/-- only slots of vs are stored -/
def TgIn (f : TgF) (vs : List Nat) : Prop := ∀ d N N', f d N → (∀ l, N l → (∀ p ∈ l, p.1 ∈ vs) → N' l) → f d N'
theorem tin_name {i : Nat} {vs : List Nat} (h : i ∈ vs) : TgIn (fName i) vs := fun d N N' f k => k _ f fun p hp => by
  simp only [List.mem_singleton] at hp; subst hp; exact h
theorem tin_tup {is vs : List Nat} (h : ∀ i ∈ is, i ∈ vs) : TgIn (fTupN is) vs := fun d N N' f k => by
  cases d <;> first | exact f.elim | skip
  exact ⟨f.1, k _ f.2 fun p hp => h _ (List.of_mem_zip hp).1⟩
theorem wipe_set {σ : L2.St} {i : Nat} {o : Option V} : ∀ {vs : List Nat}, i ∈ vs → wipe (σ.set i o) vs = wipe σ vs
  | v :: vs, h => by
    show (wipe (σ.set i o) vs).set v none = (wipe σ vs).set v none
    by_cases q : i ∈ vs
    · rw [wipe_set q]
    · have e : i = v := by simpa [q] using h
      subst e
      apply List.ext_getElem?
      intro j
      by_cases qj : i = j
      · subst qj
        simp [List.getElem?_set, wipe_length, List.length_set]
      · rw [List.getElem?_set_ne qj, List.getElem?_set_ne qj]
        have : ∀ (vs : List Nat), (wipe (σ.set i o) vs)[j]? = (wipe σ vs)[j]? := fun vs => by
          induction vs with
          | nil => exact List.getElem?_set_ne qj
          | cons u us ih =>
            show ((wipe (σ.set i o) us).set u none)[j]? = ((wipe σ us).set u none)[j]?
            rw [List.getElem?_set, List.getElem?_set, ih, wipe_length, wipe_length, List.length_set]
        exact this vs
theorem wipe_stores {vs : List Nat} : ∀ {l : List (Nat × D)} {σ : L2.St} {xs : List V}, (∀ p ∈ l, p.1 ∈ vs) → wipe (stores σ (l.map (·.1)) xs) vs = wipe σ vs
  | [], _, _, _ => rfl
  | (i, d) :: l, σ, [], _ => rfl
  | (i, d) :: l, σ, x :: xs, h => by
    show wipe (stores (σ.set i (some x)) (l.map (·.1)) xs) vs = _
    rw [wipe_stores (l := l) (fun p hp => h p (List.mem_cons_of_mem _ hp)), wipe_set (h (i, d) (List.mem_cons_self ..))]
theorem wipe_wipe {σ : L2.St} : ∀ {us vs : List Nat}, (∀ i ∈ us, i ∈ vs) → wipe (wipe σ us) vs = wipe σ vs
  | [], _, _ => rfl
  | u :: us, vs, h => by
    show wipe ((wipe σ us).set u none) vs = _
    rw [wipe_set (h u (List.mem_cons_self ..)), wipe_wipe fun i hi => h i (List.mem_cons_of_mem _ hi)]
theorem ow_wipe {ρ : Rho} {σ : L2.St} {vs : List Nat} {a : Addr} (h : Ow (wipeR ρ vs) (wipe σ vs) a) : Ow ρ σ a := by
  obtain ⟨i, d, h1, h2, h3⟩ := h
  obtain ⟨a1, a2⟩ := wipeR_some h1
  rw [wipe_get a2] at h3
  exact ⟨i, d, a1, h2, h3⟩
theorem ow_stores {K : PySem.W.Frag} {W : Wd} {H : Hp} {a : Addr} : ∀ {l : List (Nat × D)} {ρ : Rho} {σ : L2.St} {xs : List V}, DnA K W H (l.map (·.2)) xs → Ow (storesR ρ l) (stores σ (l.map (·.1)) xs) a → Ow ρ σ a
  | [], _, _, _, _, h => h
  | (i, d) :: l, ρ, σ, _, .cons (x := x) h1 h2, h => by
    obtain ⟨j, e, e1, e2, e3⟩ := ow_stores (l := l) h2 h
    rcases set_get e1 with ⟨z1, z2⟩ | ⟨z1, z2⟩
    · cases z2; cases e2
    · rw [List.getElem?_set_ne z1] at e3
      exact ⟨j, e, z2, e2, e3⟩
/-- an object that nobody else knows is written -/
theorem Ok.write {K : PySem.W.Frag} {σ : L2.St} {ρ : Rho} {W : Wd} {H : Hp} {p : Addr} {o : HO} (ok : Ok K G W ρ σ H) (hf : ¬ W.F p) (hj : ¬ W.J p) (h0 : G.H p = none) (ho : ¬ Ow ρ σ p) : Ok K G W ρ σ (upd H p o) := by
  have l : Le W H W (upd H p o) := ⟨fun _ h => h, fun _ h => h, fun a h => upd_ne fun e => hf (by rw [← e]; exact h)⟩
  refine ⟨ok.len, fun i d h => ?_, ok.frs, ok.inj, ⟨fun a h => ?_, fun a h => ?_, ok.al.d⟩, ⟨ok.en.le.trans l, ok.en.nF, ok.en.nJ, fun a u e nj no => ?_, fun a e => ?_⟩⟩
  · obtain ⟨x, e, r⟩ := ok.val i d h
    exact ⟨x, e, r.le l fun o q eq => upd_ne fun z => ho (by rw [← z]; exact ⟨i, d, h, o, by rw [e, eq]⟩)⟩
  · rw [l.k a h]; exact ok.al.f a h
  · obtain ⟨x, y, z, e, b⟩ := ok.al.j a h
    exact ⟨x, y, z, by rw [upd_ne fun q => hj (by rw [← q]; exact h)]; exact e, b⟩
  · rw [upd_ne (ne_of_none e h0)]; exact ok.en.st a u e nj no
  · by_cases q : a = p
    · subst q; exact h0
    · rw [upd_ne q] at e; exact ok.en.up a e
theorem Step.write {ow : Addr → Prop} {W W1 : Wd} {H H1 : Hp} {p : Addr} {o : HO} (s : Step ow W H W1 H1) (al : Al W H) (h0 : H p = none) : Step ow W H W1 (upd H1 p o) where
  le := ⟨s.le.F, s.le.J, fun a h => by
    obtain ⟨u, e⟩ := al.f a h
    rw [upd_ne (ne_of_none e h0)]; exact s.le.k a h⟩
  nF := s.nF
  nJ := s.nJ
  st := fun a u e nj no => by rw [upd_ne (ne_of_none e h0)]; exact s.st a u e nj no
  up := fun a e => by
    by_cases q : a = p
    · subst q; exact h0
    · rw [upd_ne q] at e; exact s.up a e
theorem storesR_ne {i : Nat} : ∀ {l : List (Nat × D)} {ρ : Rho}, (∀ p ∈ l, p.1 ≠ i) → (storesR ρ l)[i]? = ρ[i]?
  | [], _, _ => rfl
  | (j, d) :: l, ρ, h => by
    show (storesR (ρ.set j _) l)[i]? = _
    rw [storesR_ne (l := l) fun p hp => h p (List.mem_cons_of_mem _ hp), List.getElem?_set_ne (h (j, d) (List.mem_cons_self ..))]
theorem stores_ne {i : Nat} : ∀ {is : List Nat} {σ : L2.St} {xs : List V}, (∀ p ∈ is, p ≠ i) → (stores σ is xs)[i]? = σ[i]?
  | [], _, _, _ => by unfold stores; rfl
  | _ :: _, _, [], _ => by unfold stores; rfl
  | j :: is, σ, x :: xs, h => by
    show (stores (σ.set j _) is xs)[i]? = _
    rw [stores_ne (is := is) fun p hp => h p (List.mem_cons_of_mem _ hp), List.getElem?_set_ne (h j (List.mem_cons_self ..))]
theorem wipeR_ne {ρ : Rho} {i : Nat} : ∀ {vs : List Nat}, i ∉ vs → (wipeR ρ vs)[i]? = ρ[i]?
  | [], _ => rfl
  | v :: vs, h => by
    simp only [List.mem_cons, not_or] at h
    show ((wipeR ρ vs).set v none)[i]? = _
    rw [List.getElem?_set_ne (fun q => h.1 q.symm)]
    exact wipeR_ne h.2
/-- behind a block, the slots as they were -/
theorem Ok.unblk {K : PySem.W.Frag} {σ : L2.St} {ρ : Rho} {W W' : Wd} {H H' : Hp} {vs : List Nat} {l : List (Nat × D)} {xs : List V} (ok0 : Ok K G W ρ σ H) (n : NoOwn ρ vs) (hl : ∀ p ∈ l, p.1 ∈ vs)
    (ok : Ok K G W' (storesR (wipeR ρ vs) l) (DL.stores (L2.wipe σ vs) (l.map (·.1)) xs) H') (le : Le W H W' H') : Ok K G W' ρ σ H' := by
  have e1 : ∀ i, i ∉ vs → (storesR (wipeR ρ vs) l)[i]? = ρ[i]? := fun i h => by
    rw [storesR_ne (i := i) (fun p hp q => h (by rw [← q]; exact hl p hp)), wipeR_ne h]
  have e2 : ∀ i, i ∉ vs → (DL.stores (L2.wipe σ vs) (l.map (·.1)) xs)[i]? = σ[i]? := fun i h => by
    rw [stores_ne (fun p hp q => ?_), wipe_get h]
    obtain ⟨z, hz, rfl⟩ := List.mem_map.mp hp
    exact h (by rw [← q]; exact hl z hz)
  have nv : ∀ (i : Nat) (d : S), ρ[i]? = some (some d) → d.isOwn = true → i ∉ vs := fun i d h o q => by rw [n i q d h] at o; cases o
  refine ⟨ok0.len, fun i d h => ?_, fun a ⟨i, d, h1, h2, h3⟩ => ?_, fun i j d e a h1 h2 o1 o2 s1 s2 => ?_, ok.al, ok.en⟩
  · by_cases q : i ∈ vs
    · obtain ⟨x, e, r⟩ := ok0.val i d h
      refine ⟨x, e, r.le le fun o => ?_⟩
      rw [n i q d h] at o; cases o
    · rw [← e2 i q]; exact ok.val i d (by rw [e1 i q]; exact h)
  · have q := nv i d h1 h2
    exact ok.frs a ⟨i, d, by rw [e1 i q]; exact h1, h2, by rw [e2 i q]; exact h3⟩
  · have q := nv i d h1 o1
    have q' := nv j e h2 o2
    exact ok.inj i j d e a (by rw [e1 i q]; exact h1) (by rw [e1 j q']; exact h2) o1 o2 (by rw [e2 i q]; exact s1) (by rw [e2 j q']; exact s2)
theorem lE_lc {K : PySem.W.Frag} {X' : Cx} (hK : X'.K = K) {wi : WI} {f : TgF} {g : TG} {tg : Expr} {te : WE} {vs : List Nat} (hg : TgtL X' tg f g) (hin : TgIn f vs) {σ : L2.St} {H : Hp} {Q : VK} (h : lE K G T (wLc wi f t te vs) σ H Q) :
    tLc (lI K G T wi) g (lT K G noT t) (lE K G noT te) vs σ H Q := by
  subst hK
  obtain ⟨W, ρ, R, Z, ok, h, hR, hZ⟩ := h
  refine ⟨W, ρ, _, Z, ok, h, fun ds ρ1 W1 H1 J ⟨hno, h1⟩ g1 it D hD => ?_, hZ⟩
  have al1 := g1.ok.al
  have hD0 : G.H D = none := g1.ok.upG hD
  have nOD : ¬ Ow ρ1 σ D := fun q => by
    obtain ⟨o, e⟩ := g1.ok.here q
    rw [hD] at e; cases e
  have start := Go.new (o := .lst []) g1.ok hD
  refine ⟨fun i m H' => ∃ W' acc xs, Ok X'.K G W' ρ1 σ H' ∧ H' D = some (.lst xs) ∧ DnA X'.K W' H' acc xs ∧ ¬ W'.F D ∧ ¬ W'.J D ∧ wLcL f t te (wipeR ρ1 vs) (fun acc => R (.own acc) ρ1) (ds.drop i) acc ∧ Step (Ow ρ1 σ) W1 H1 W' H' ∧ m = ds.length - i ∧ i ≤ ds.length, ?_, ?_⟩
  · refine ⟨ds.length, W1, [], [], start.ok, upd_same, .nil, fun q => ?_, fun q => ?_, h1, start.stp, rfl, Nat.zero_le _⟩
    · obtain ⟨o, e⟩ := al1.f D q; rw [hD] at e; cases e
    · obtain ⟨x, y, z, e, _⟩ := al1.j D q; rw [hD] at e; cases e
  rintro i m H' ⟨W', acc, xs, ok', eD, da, nF, nJ, h', st, rfl, hle⟩
  obtain ⟨q1, q2⟩ := it i W' H' st.le ok'.al
  by_cases hi : i < ds.length
  · obtain ⟨d, hd⟩ : ∃ d, ds[i]? = some d := ⟨ds[i], List.getElem?_eq_getElem hi⟩
    obtain ⟨go, yl⟩ := q2 d hd
    have ed : ds[i] = d := by rw [List.getElem?_eq_getElem hi] at hd; exact Option.some.inj hd
    rw [List.drop_eq_getElem_cons hi, ed] at h'
    refine .inr ⟨go, fun H2 => ∃ W' acc xs, Ok X'.K G W' ρ1 σ H2 ∧ H2 D = some (.lst xs) ∧ DnA X'.K W' H2 acc xs ∧ ¬ W'.F D ∧ ¬ W'.J D ∧ wLcL f t te (wipeR ρ1 vs) (fun acc => R (.own acc) ρ1) (ds.drop (i + 1)) acc ∧ Step (Ow ρ1 σ) W1 H1 W' H2, ?_, fun x H2 hy => ?_⟩
    · rintro H2 ⟨W2, acc2, xs2, o, e, da2, f1, f2, q, s2⟩
      exact ⟨ds.length - (i + 1), by omega, W2, acc2, xs2, o, e, da2, f1, f2, q, s2, rfl, by omega⟩
    · obtain ⟨W2, st2, al2, hd2⟩ := yl x H2 hy
      have g2 := ok'.grow st2 al2
      have okb := g2.ok.wipe vs
      refine hg.2 W2 H2 x d (wipe σ vs) _ _ hd2 (hin d _ _ h' fun l hl hv => (⟨hl, hv⟩ : _ ∧ ∀ p ∈ l, p.1 ∈ vs)) fun l xs' ⟨hl, hv⟩ dl => ?_
      have ok3 := okb.stores dl
      have owS : ∀ a, Ow (storesR (wipeR ρ1 vs) l) (stores (wipe σ vs) (l.map (·.1)) xs') a → Ow ρ1 σ a := fun a q => ow_wipe (ow_stores dl q)
      have nD2 : W2.F D → False := fun q => (st2.nF D q).elim nF fun z => z.elim (fun e => by rw [eD] at e; cases e) id
      have nJ2 : W2.J D → False := fun q => (st2.nJ D q).elim nJ fun e => by rw [eD] at e; cases e
      have eD2 : H2 D = some (.lst xs) := st2.st D _ eD nJ fun q => q
      have sA : Step (Ow ρ1 σ) W1 H1 W2 H2 := st.trans st2 fun _ q => q.elim
      refine ⟨by rw [wipe_stores hv, wipe_wipe fun _ h => h], ?_⟩
      refine ⟨W2, _, _, noZ, ok3, hl, fun b ρ3 W3 H3 ⟨e3, hb⟩ g3 => ?_, fun _ _ _ _ _ _ q => q.elim⟩
      subst e3
      have nD3 : W3.F D → False := fun q => (g3.stp.nF D q).elim nD2 fun z => z.elim (fun e => by rw [eD2] at e; cases e) fun q => nOD (owS D q)
      have nJ3 : W3.J D → False := fun q => (g3.stp.nJ D q).elim nJ2 fun e => by rw [eD2] at e; cases e
      have eD3 : H3 D = some (.lst xs) := g3.stp.st D _ eD2 nJ2 fun q => nOD (owS D q)
      have sB : Step (Ow ρ1 σ) W1 H1 W3 H3 := sA.trans g3.stp fun a q => .inl (owS a q)
      cases b with
      | false =>
        simp only [Bool.false_eq_true, if_false] at hb ⊢
        exact ⟨W3, acc, xs, ok'.unblk hno hv g3.ok (st2.le.trans g3.stp.le), eD3, da.le (st2.le.trans g3.stp.le), nD3, nJ3, hb, sB⟩
      | true =>
        simp only [if_true] at hb ⊢
        refine lE_then (T := noT) (R := fun y ρ4 => ρ4 = storesR (wipeR ρ1 vs) l ∧ acc.length < sizeLine ∧ wLcL f t te (wipeR ρ1 vs) (fun acc => R (.own acc) ρ1) (ds.drop (i + 1)) (acc ++ [y])) g3.ok hb (fun _ _ _ _ _ _ q => q.elim) fun y ρ4 W4 z H4 ⟨e4, hlen, h4⟩ g4 d4 => ?_
        subst e4
        have nD4 : W4.F D → False := fun q => (g4.stp.nF D q).elim nD3 fun z => z.elim (fun e => by rw [eD3] at e; cases e) fun q => nOD (owS D q)
        have nJ4 : W4.J D → False := fun q => (g4.stp.nJ D q).elim nJ3 fun e => by rw [eD3] at e; cases e
        have eD4 : H4 D = some (.lst xs) := g4.stp.st D _ eD3 nJ3 fun q => nOD (owS D q)
        have l4 : Le W' H' W4 H4 := (st2.le.trans g3.stp.le).trans g4.stp.le
        have lw : Le W4 H4 W4 (upd H4 D (.lst (xs ++ [z]))) := ⟨fun _ h => h, fun _ h => h, fun a h => upd_ne fun e => nD4 (by rw [← e]; exact h)⟩
        refine ⟨xs, eD4, by rw [← da.length]; exact hlen, W4, acc ++ [y], xs ++ [z], (ok'.unblk hno hv g4.ok l4).write nD4 nJ4 hD0 nOD, upd_same, ((da.le l4).append (.cons d4 .nil)).le lw, nD4, nJ4, h4, ?_⟩
        exact (sB.trans g4.stp fun a q => .inl (owS a q)).write al1 hD
  · have e : i = ds.length := by omega
    subst e
    rw [List.drop_length] at h'
    refine .inl ⟨q1 (Nat.le_refl _), hR (.own acc) ρ1 W' (.ref D) H' h' (g1.trans ⟨ok', st, fun _ q => q⟩) ⟨⟨D, xs, rfl, eD, da⟩, fun _ p e => ?_⟩⟩
    cases e
    exact ⟨nF, nJ, g1.stp.up D hD⟩
theorem de_lc {elt tg iter : Expr} {ifs : List Expr} {scope : Scope} {own : List (Str × Nat)} {wi : WI} {f : TgF} {g : TG} {te : WE} (hN : X.N.Nodup) (hi : DI X G T tg iter wi) (ok : BlkOk X.N X.env.scope scope own)
    (hg : ∀ (s : Shared) (H : Hp) (C : Addr) (cl : List (Str × Addr)) (fp : List Addr), TgtL (X.blk s H scope (compEnvC scope cl C X.env) fp) tg f g) (hin : TgIn f (own.map (·.2)))
    (ht : ∀ (s : Shared) (H : Hp) (C : Addr) (cl : List (Str × Addr)) (fp : List Addr), DTs (X.blk s H scope (compEnvC scope cl C X.env) fp) G noT ifs t)
    (he : ∀ (s : Shared) (H : Hp) (C : Addr) (cl : List (Str × Addr)) (fp : List Addr), DE (X.blk s H scope (compEnvC scope cl C X.env) fp) G noT elt te) (hc : X.calm = true := by rfl) (hs : ∀ x, foldedSetIterable iter X.env x = pure x := by intro _; rfl) :
    DE X G T (.ListComp elt [⟨tg, iter, ifs, 0⟩] scope pos) (wLc wi f t te (own.map (·.2))) :=
  ⟨fun pins s σ H Q I h => (pe_lc (tt := lT X.K G noT t) (te := lE X.K G noT te) hc hN hi ok (fun s H C cl fp => (hg s H C cl fp).1) ht he hs).run pins s σ H Q I (lE_lc (X' := X.blk s H scope (compEnvC scope [] 0 X.env) []) rfl (hg s H 0 [] []) hin h)⟩
theorem ds_setLc {i : Nat} {y : Str} {py : Pos} {elt tg iter : Expr} {ifs : List Expr} {scope : Scope} {own : List (Str × Nat)} {spos : Pos} {wi : WI} {f : TgF} {g : TG} {te : WE} (hN : X.N.Nodup) (hi : DI X G T tg iter wi) (ok : BlkOk X.N X.env.scope scope own)
    (hg : ∀ (s : Shared) (H : Hp) (C : Addr) (cl : List (Str × Addr)) (fp : List Addr), TgtL (X.blk s H scope (compEnvC scope cl C X.env) fp) tg f g) (hin : TgIn f (own.map (·.2)))
    (ht : ∀ (s : Shared) (H : Hp) (C : Addr) (cl : List (Str × Addr)) (fp : List Addr), DTs (X.blk s H scope (compEnvC scope cl C X.env) fp) G noT ifs t)
    (he : ∀ (s : Shared) (H : Hp) (C : Addr) (cl : List (Str × Addr)) (fp : List Addr), DE (X.blk s H scope (compEnvC scope cl C X.env) fp) G noT elt te)
    (hsw : swapsWith (.ListComp elt [⟨tg, iter, ifs, 0⟩] scope pos) (some (.Name y py)) spos.line X.env = pure true) (hy : X.N[i]? = some y := by rfl) (hyl : X.env.scope.names.lookup y = some .local := by rfl) (hc : X.calm = true := by rfl)
    (hs : ∀ x, foldedSetIterable iter X.env x = pure x := by intro _; rfl) :
    DS X G T (.Assign [.Name y py] (.ListComp elt [⟨tg, iter, ifs, 0⟩] scope pos) spos) (wSet i (wLc wi f t te (own.map (·.2)))) :=
  ⟨fun pins s σ H D I h => (ps_setLc (tt := lT X.K G noT t) (te := lE X.K G noT te) hc hN hy hyl hsw hi ok (fun s H C cl fp => (hg s H C cl fp).1) ht he hs).run pins s σ H D I (lS_set (fun Q q => lE_lc (X' := X.blk s H scope (compEnvC scope [] 0 X.env) []) rfl (hg s H 0 [] []) hin q) h)⟩
end
end DL

/-! DL4: defs over data, their calls, the law's end. -/
namespace DL
open PySem PySem.Spec L2
/-- behind a call -/
structure Ret (K : PySem.W.Frag) (W : Wd) (H : Hp) (W' : Wd) (H' : Hp) (d : S) (x : V) : Prop where
  al : Al W' H'
  stp : Step no1 W H W' H'
  res : Res K H W' H' d x
structure RetX (K : PySem.W.Frag) (W : Wd) (H : Hp) (W' : Wd) (H' : Hp) (x : Exn) (c : Value) (dx : Option Addr) : Prop where
  al : Al W' H'
  stp : Step no1 W H W' H'
  ex : ExAt K W' H' x c dx
/-- the def at f does over data what wf says; k: how deep it calls -/
def FnG (P : Program) (w : World) (K : PySem.W.Frag) (mg : Str → Option Value) (base : Heap) (k : Nat) (f : Addr) (fd : FuncData) (ps : List Str) (wf : WF) : Prop :=
  ∀ (A : Around) (outer : List PySem.Env) (s : Shared) (H : Hp) (args : Args) (us : List Value) (vs : List V) (ds : List D) (W : Wd) (R : S → Prop) (Z : Exn → Prop) (Q : VK) (E : XK),
    A.guards = some [] → Room k A → Env0 P w K mg base A outer s H → BindsTo s fd args (ps.zip us) → Vals vs us → ds.length = ps.length → Al W H → DnA K W H ds vs → wf Z ds R →
    (∀ d W' x H', R d → Ret K W H W' H' d x → Q x H') → (∀ x W' H' c dx, Z x → RetX K W H W' H' x c dx → E c dx H') →
    codeAny (model P w) A (.call (.ref f) args) (CR (L2.CX P w) outer P w H s Q E) s
/-- what a body's context gives -/
structure CxG (X : Cx) (T : WX) (k : Nat) : Prop where
  tk : Takes X T
  gd : X.A.guards = some []
  rm : Room k X.A
  po : PassesOwn (model X.prog X.w) X.A X.env X.xe
theorem CxG.u64 {X : Cx} {T : WX} {k : Nat} (c : CxG X T k) : X.A.units + 64 < cLine := c.rm.units
theorem takes_no {X : Cx} : Takes X noT := fun u s' h => by
  obtain ⟨_, _, _, _, _, _, _, _, _, _, _, _, _, _, _, _, z⟩ := h
  exact z.elim
theorem CxG.blk {X : Cx} {T : WX} {k : Nat} (c : CxG X T k) (s : Shared) (H : Hp) (sc : Scope) (e : PySem.Env) (fp : List Addr) (po : PassesOwn (model X.prog X.w) X.A e fun _ _ => False) : CxG (X.blk s H sc e fp) noT k :=
  ⟨takes_no, c.gd, c.rm, po⟩
def rho0 (N : List Str) (ds : List D) : Rho := ds.map (fun d => some (.d d)) ++ List.replicate (N.length - ds.length) none
theorem start_ok {K : PySem.W.Frag} {W : Wd} {H : Hp} {N : List Str} {ds : List D} {vs : List V} (al : Al W H) (h : DnA K W H ds vs) : Ok K ⟨W, H⟩ W (rho0 N ds) (L2.start N vs) H := by
  have hl := h.length
  have noO : ∀ (i : Nat) (d : S), (rho0 N ds)[i]? = some (some d) → ∃ e, d = .d e ∧ ds[i]? = some e := fun i d e => by
    unfold rho0 at e
    by_cases q : i < ds.length
    · rw [List.getElem?_append_left (by rw [List.length_map]; exact q), List.getElem?_map] at e
      cases z : ds[i]? with
      | none => rw [z] at e; cases e
      | some y => rw [z] at e; cases e; exact ⟨y, rfl, rfl⟩
    · rw [List.getElem?_append_right (by rw [List.length_map]; omega), List.getElem?_replicate] at e
      split at e <;> cases e
  refine ⟨?_, fun i d e => ?_, fun a ⟨i, d, e, o, _⟩ => ?_, fun i j d e a h1 h2 o1 => ?_, al, .refl _ _ _⟩
  · unfold L2.start rho0
    rw [List.length_append, List.length_append, List.length_map, List.length_map, List.length_replicate, List.length_replicate, hl]
  · obtain ⟨y, rfl, hy⟩ := noO i d e
    obtain ⟨x, e1, e2⟩ := h.get hy
    refine ⟨x, ?_, e2⟩
    unfold L2.start
    rw [List.getElem?_append_left (by rw [List.length_map]; exact (List.getElem?_eq_some_iff.mp e1).1), List.getElem?_map, e1]
    rfl
  · obtain ⟨y, rfl, _⟩ := noO i d e; cases o
  · obtain ⟨y, rfl, _⟩ := noO i d h1; cases o1
section
variable {P : Program} {w : World} {K : PySem.W.Frag} {mg : Str → Option Value} {base : Heap}
/-- THE RULE for a def -/
theorem ok_def {x qual : Str} {st : Stmt} {f : Addr} {fd : FuncData} {N ps : List Str} {k : Nat} {wf : WF} {wb : WS} (F : Fun K x qual st f fd) (Sc : FnScope N ps (defScope st))
    (hw : ∀ Z ds R, ds.length = ps.length → wf Z ds R → wb ⟨fun _ => R (.d .non), R, fun _ => False, fun _ => False, fun x _ => Z x⟩ (rho0 N ds))
    (hb : ∀ (cdv : Value) (A : Around) (outer : List PySem.Env) (s : Shared) (H : Hp) (E : XK) (W : Wd), CxG (cxOf (L2.CX P w) P w K mg base N qual (defScope st) f cdv A outer s H E) (fun cls d _ H => E cls d H) k →
      DSs (cxOf (L2.CX P w) P w K mg base N qual (defScope st) f cdv A outer s H E) ⟨W, H⟩ (fun cls d _ H => E cls d H) (defBody st) wb) :
    FnG P w K mg base (k + 1) f fd ps wf := by
  intro A outer s H args us vs ds W R Z Q E hg hr e0 hbd r hlen al da hwf hQ hE
  obtain ⟨oc, od, kV, doc, pm, an, cdv, ct, osl, rfl, lk, hcd⟩ := F.ex
  have hl : vs.length = ps.length := by rw [← da.length]; exact hlen
  have inK : K.In s.heap := e0.mod.kin.keeps fun b o q => (e0.bs b o q).1
  have noLim : s.heap.NoLimit := e0.mod.nolimit.keeps fun b o q => (e0.bs b o q).1
  have kinds : ∀ y ∈ ps.zip us, (defScope st).names.lookup y.1 = some .local ∨ ((defScope st).names.lookup y.1 = some .cell ∧ ((cellsFrom (s.heap.objs.size + 1) (defScope st).names []).lookup y.1).isSome = true) := fun ⟨n, v⟩ hy =>
    (Sc.par n (List.of_mem_zip hy).1).imp id fun q => ⟨q, PySem.W.cellsFrom_some _ _ _ (.inl q)⟩
  refine codeAny_call_function hr.depth (inK _ _ lk) rfl Sc.co Sc.gen rfl (PySem.W.codeRec_of inK hcd) (hbd _ _ _ _ ?_)
  refine wpAny_newFunctionEnv_cells Sc.kind kinds fun env he s1 xx => ?_
  subst he
  refine ⟨noLim.keeps xx.toInCall.keep, codeAny_func ?_⟩
  have I : Inv (cxOf (L2.CX P w) P w K mg base N qual (defScope st) f cdv A outer s H E) [] (L2.start N vs) H s1 := inv_start Sc hr.hd e0 hl r xx
  have C : CxG (cxOf (L2.CX P w) P w K mg base N qual (defScope st) f cdv A outer s H E) (fun cls d _ H => E cls d H) k :=
    ⟨takes_of rfl rfl rfl rfl, hg, hr.deeper _, passes_of rfl⟩
  have D := hb cdv A outer s H E W C
  have body := hw Z ds R hlen hwf
  have ok0 := start_ok (N := N) al da
  refine wpAny_mono (D.run [] s1 (L2.start N vs) H { nx := fun _ H' => Q .non H', rt := Q } I ⟨W, rho0 N ds, _, ok0, body, fun ρ' W' σ' H' h o l => ?_, fun d ρ' W' σ' y H' h o l rr => ?_, fun _ _ _ _ q => q.elim, fun _ _ _ _ q => q.elim, fun z ρ' W' σ' H' c dx h o l ex => ?_⟩) (fun fl s' hs => ?_) fun e s' hs => hs
  · exact hQ _ W' _ H' h ⟨o.al, o.en, .of .non⟩
  · exact hQ _ W' _ H' h ⟨o.al, o.en, rr⟩
  · exact hE _ W' _ _ _ h ⟨o.al, o.en, ex⟩
  have fin : ∀ {σ' : L2.St} {H' : Hp} {v : V} {u : Value}, Inv (cxOf (L2.CX P w) P w K mg base N qual (defScope st) f cdv A outer s H E) [] σ' H' s' → RelV v u → Q v H' → CE outer P w H s Q u s' :=
    fun {σ' H' v u} J rv q => ⟨v, H', J.os, J.bare, J.base, J.hok, rv, q⟩
  match fl, hs with
  | .ret u, ⟨v, σ', H', J, rv, q⟩ => exact fin J rv q
  | .next, ⟨σ', H', J, q⟩ => exact fin (v := V.non) (u := Value.none) J rfl q
  | .brk, ⟨_, _, _, q⟩ => exact False.elim q
  | .cont, ⟨_, _, _, q⟩ => exact False.elim q
/-- a promise told otherwise -/
theorem FnG.imp {k : Nat} {f : Addr} {fd : FuncData} {ps : List Str} {wf wf' : WF} (F : FnG P w K mg base k f fd ps wf) (h : ∀ Z ds R, ds.length = ps.length → wf' Z ds R → wf Z ds R) : FnG P w K mg base k f fd ps wf' :=
  fun A outer s H args us vs ds W R Z Q E hg hr e0 hbd r hlen al da hwf hQ hE => F A outer s H args us vs ds W R Z Q E hg hr e0 hbd r hlen al da (h Z ds R hlen hwf) hQ hE
theorem FnG.mono {j k : Nat} {f : Addr} {fd : FuncData} {ps : List Str} {wf : WF} (F : FnG P w K mg base j f fd ps wf) (h : j ≤ k) : FnG P w K mg base k f fd ps wf :=
  fun A outer s H args us vs ds W R Z Q E hg hr => F A outer s H args us vs ds W R Z Q E hg (hr.mono h)
end
/-! ### calls -/
section
variable {X : Cx} {G : Gx} {T : WX} {k j : Nat} {f : Addr} {fd : FuncData} {ps : List Str} {wf : WF}
theorem run_g {pins : List (Addr × Obj)} {σ : L2.St} {ρ : Rho} {W : Wd} {H : Hp} {s : Shared} {args : Args} {us : List Value} {vs : List V} {ds : List D} {R : S → Prop} {Z : Exn → Prop} {Q : VK} (C : CxG X T k) (F : FnG X.prog X.w X.K X.mg X.base j f fd ps wf) (hj : j ≤ k)
    (hb : BindsTo s fd args (ps.zip us)) (I : Inv X pins σ H s) (r : Vals vs us) (hl : ds.length = ps.length) (ok : Ok X.K G W ρ σ H) (da : DnA X.K W H ds vs) (h : wf Z ds R)
    (hR : ∀ d W' x H', R d → Go X.K G σ ρ W H ρ W' H' → Res X.K H W' H' d x → Q x H') (hZ : ∀ x W' H' c dx, Z x → Go X.K G σ ρ W H ρ W' H' → ExAt X.K W' H' x c dx → T c dx σ H') :
    codeAny (model X.prog X.w) X.A (.call (.ref f) args) (fun r s' => match r with | .ok (.ret u) => EP X pins σ Q u s' | .ok _ => False | .error e => X.xe e s') s := by
  refine codeAny_mono (F X.A X.stack s H args us vs ds W R Z Q (fun c dx H' => T c dx σ H') C.gd (C.rm.mono hj) I.env0 hb r hl ok.al da h
    (fun d W' x H' hr rt => hR d W' x H' hr (ok.grow rt.stp rt.al) rt.res) fun x W' H' c dx hz rt => hZ x W' H' c dx hz (ok.grow rt.stp rt.al) rt.ex) fun r s' hq => ?_
  match r, hq with
  | .error e, hq => exact C.tk e s' (XE.of_call (W := T) I (fun _ _ _ q => q) hq)
  | .ok (.ret u), hq => exact I.after hq
/-- f(..): the arguments, then the def -/
def wCall (n : Nat) (wf : WF) (u : WA) : WE := fun Z ρ R => u Z ρ fun ds ρ1 => ds.length = n ∧ wf (fun x => Z x ρ1) ds fun s => R s ρ1
theorem wp_call {pins : List (Addr × Obj)} {σ : L2.St} {H : Hp} {s : Shared} {Q : VK} {us : List Value} {vs : List V} {W : Wd} {ρ : Rho} {ds : List D} {R : S → Prop} {Z : Exn → Prop} (C : CxG X T k) (F : FnG X.prog X.w X.K X.mg X.base j f fd ps wf) (hj : j ≤ k) (hb : Binds X.K fd ps [])
    (I : Inv X pins σ H s) (r : Vals vs us) (hl : ds.length = ps.length) (ok : Ok X.K G W ρ σ H) (da : DnA X.K W H ds vs) (h : wf Z ds R)
    (hR : ∀ d W' x H', R d → Go X.K G σ ρ W H ρ W' H' → Res X.K H W' H' d x → Q x H') (hZ : ∀ x W' H' c dx, Z x → Go X.K G σ ρ W H ρ W' H' → ExAt X.K W' H' x c dx → T c dx σ H') :
    wpAny (model X.prog X.w) X.A (call (.ref f) us) (EP X pins σ Q) X.xe s := by
  have e : (us ++ ([] : List Value)).length = ps.length := by rw [List.append_nil, ← r.length, ← da.length]; exact hl
  have hb' := hb s us I.kIn e
  rw [List.append_nil] at hb'
  refine wpAny_call (codeAny_mono (run_g C F hj hb' I r hl ok da h hR hZ) fun r s' hq => ?_)
  match r, hq with
  | .error e, hq => exact hq
  | .ok (.ret u), hq => exact hq
theorem de_call {x : Str} {p pos : Pos} {e : Expr} {es : List Expr} {u : WA} (C : CxG X T k) (F : FnG X.prog X.w X.K X.mg X.base j f fd ps wf) (hj : j ≤ k) (hm : X.mg x = some (.ref f)) (hk : PySem.W.keepIn X.K (.ref f) = true) (hb : Binds X.K fd ps [])
    (ha : DA X G T (e :: es) u) (hg : Gl X x := by rfl) (hdb : (x == ("__debug__" : Str)) = false := by decide) (he : starEach (e :: es) X.env = (false, eval e X.env) :: starEach es X.env := by rfl) (hpl : (backTo pos (starEach es X.env)).any (·.1) = false := by rfl) :
    DE X G T (.Call (.Name x p) (e :: es) [] pos) (wCall ps.length wf u) := by
  refine ⟨fun pins s σ H Q I ⟨W, ρ, R, Z, ok, h, hR, hZ⟩ => ?_⟩
  refine wpAny_Call_Name_kw (ld_glob I hg hm ?_ hdb)
  have args : lA X.K G T u σ H fun vs H1 => ∃ ds W1 ρ1, Go X.K G σ ρ W H ρ1 W1 H1 ∧ DnA X.K W1 H1 ds vs ∧ ds.length = ps.length ∧ wf (fun x => Z x ρ1) ds fun s => R s ρ1 :=
    ⟨W, ρ, _, Z, ok, h, fun ds ρ1 W1 xs H1 ⟨h1, h2⟩ g d => ⟨ds, W1, ρ1, g, d, h1, h2⟩, hZ⟩
  refine PySem.W.callWith_K (h₀ := X.base) I.ok.mod.kin hk (thn (ha.run pos pins s σ H _ I args) fun us s1 ⟨vs, H1, I1, r, ds, W1, ρ1, g, d, h1, h2⟩ => ⟨I1.kIn, ?_⟩) he hpl
  exact wp_call C F hj hb I1 r h1 g.ok d h2 (fun d W' x H' hr g' rs => hR d ρ1 W' x H' hr (g.trans g') (rs.up g.stp.up)) fun x W' H' c dx hz g' ex => hZ x ρ1 W' H' c dx hz (g.trans g') ex
theorem de_call0 {x : Str} {p pos : Pos} (C : CxG X T k) (F : FnG X.prog X.w X.K X.mg X.base j f fd [] wf) (hj : j ≤ k) (hm : X.mg x = some (.ref f)) (hk : PySem.W.keepIn X.K (.ref f) = true) (hb : Binds X.K fd [] [])
    (hg : Gl X x := by rfl) (hdb : (x == ("__debug__" : Str)) = false := by decide) : DE X G T (.Call (.Name x p) [] [] pos) (wCall 0 wf wNil) := by
  refine ⟨fun pins s σ H Q I ⟨W, ρ, R, Z, ok, h, hR, hZ⟩ => ?_⟩
  refine wpAny_Call_Name_kw (ld_glob I hg hm ?_ hdb)
  exact PySem.W.callWith_K0 I.kIn hk (wp_call (us := []) (ds := []) C F hj hb I .nil rfl ok .nil h.2 (fun d W' x H' hr g' rs => hR d ρ W' x H' hr g' rs) fun x W' H' c dx hz g' ex => hZ x ρ W' H' c dx hz g' ex)
end
/-! ### the law -/
open PyProof.Rows in
theorem law_g {P : Program} {w : World} {K : PySem.W.Frag} {mg mb : Str → Option Value} {k : Nat} {fa a : Addr} {fd : FuncData} {x : Str} {wf : WF} {t0 : Shared} {vs : List Value} {ns : List Int}
    (KX : K.In t0.heap) (hns : t0.heap.Ns mainGlobals mg) (hb : t0.heap.Ns builtinsNs mb) (hbb : ∀ x : Str, x ≠ "__name__" → mb x = bootBuiltins x) (hlim : t0.heap.NoLimit) (hg : t0.gens = #[])
    (ha : t0.heap.get? a = some { cls := .type "list", data := .seq vs.toArray }) (hi : IntsAre vs ns) (hl : ns.length ≤ sizeLine) (hr : Room k callerA)
    (F : ∀ base : Heap, K.In base → base.Ns mainGlobals mg → FnG P w K mg base k fa fd [x] wf) (hbind : ∀ (s : Shared) (u : Value), BindsTo s fd ⟨[u], []⟩ [(x, u)])
    (hwf : wf (fun _ => False) [.rls (ns.map .int)] fun s => s = .d (.bl true)) :
    codeAny (model P w) callerA (.call (.ref fa) ⟨[.ref a], []⟩) (fun r s' => r = .ok (.ret (.bool true)) ∧ OldK t0.heap s'.heap ∧ s'.os = t0.os ∧ AllBare s'.gens) t0 := by
  have rv := vals_ints hi
  have lenV := hi.length
  -- the heap in which the script alone may be told
  have main : ∀ (H : Hp) (W : Wd), Only H → Al W H → SeqL K W H a (ns.map V.int) → HOk P w H t0.heap → (∀ b, H b ≠ none → b = a) → (H a ≠ none → K.lookup a = none) →
      codeAny (model P w) callerA (.call (.ref fa) ⟨[.ref a], []⟩) (fun r s' => r = .ok (.ret (.bool true)) ∧ OldK t0.heap s'.heap ∧ s'.os = t0.os ∧ AllBare s'.gens) t0 := by
    intro H W only al sq hok isA noK
    have far : ∀ {b : Addr} {u : HO}, H b = some u → b = a := fun {b u} q => isA b (by rw [q]; intro z; cases z)
    have dictFree : ∀ {b : Addr} {o : Obj} {es : Array DictEntry} {ep : Nat}, t0.heap.get? b = some o → o.data = .dict es ep → H b = none := fun {b o es ep} e d => by
      cases q : H b with
      | none => rfl
      | some u =>
        obtain rfl := far q
        rw [ha] at e; cases e
        cases (show Data.seq vs.toArray _ = Data.dict es ep from d)
    have nsK : ∀ {b : Addr} {m : Str → Option Value}, t0.heap.Ns b m → (hidT t0.heap H).Ns b m := fun {b m} ⟨o, es, ep, e, d, rr⟩ => ⟨o, es, ep, hidT_get e (dictFree e d), d, rr⟩
    have kin : K.In (hidT t0.heap H) := fun b o e => hidT_get (KX b o e) (by
      cases q : H b with
      | none => rfl
      | some u =>
        obtain rfl := far q
        rw [noK (by rw [q]; intro z; cases z)] at e; cases e)
    have M : Mod K mg (hidT t0.heap H) := ⟨kin, nsK hns, ⟨mb, nsK hb, hbb⟩, let ⟨mc, h1, h2⟩ := hlim; ⟨mc, nsK h1, h2⟩⟩
    have env : Env0 P w K mg (hidT t0.heap H) callerA [] t0 H := ⟨rfl, M, fun b o e => of_hidT e, Nat.le_of_eq (hidT_size _ _), trivial, fun b hb => absurd (show b ∈ ([] : List Addr) from hb) (by simp), hok, .of_eq hg⟩
    refine codeAny_mono (F _ kin (nsK hns) callerA [] t0 H ⟨[.ref a], []⟩ [.ref a] [.ref a] [.rls (ns.map .int)] W _ _ (fun v _ => v = .bl true) (fun _ _ _ => False) rfl hr env (hbind t0 (.ref a)) (.cons rfl .nil) rfl al
      (.cons (.rls sq (.of_int ns)) .nil) hwf (fun d W' y H' e rt => ?_) fun _ _ _ _ _ q => q.elim) fun r s' h => ?_
    · subst e
      have q : Dn K W' H' (.bl true) y := rt.res.rs
      cases q
      rfl
    · match r, h with
      | .error e, h => obtain ⟨_, _, _, _, _, _, _, _, _, _, _, _, z⟩ := h; exact z.elim
      | .ok (.ret u), ⟨v, H', os, bare, un, hok', rr, q⟩ =>
        subst q
        obtain rfl : u = Value.bool true := rr
        refine ⟨rfl, OldK.of_keep fun b o e => ?_, os, bare⟩
        cases q : H b with
        | none => exact un.keep b o e q (by intro z; exact absurd (show b ∈ ([] : List Addr) from z) (by simp)) (by simp)
        | some u =>
          rcases only b with z | ⟨ob, xs, z⟩
          · rw [q] at z; cases z
          · obtain ⟨e1, _⟩ := hok b _ z
            obtain ⟨e2, _⟩ := hok' b _ (un.frzs b ob _ z)
            rw [e] at e1; cases e1
            exact e2
  cases hk : K.lookup a with
  | some o =>
    have e := KX a o hk
    rw [ha] at e
    cases e
    refine main (fun _ => none) ⟨fun _ => False, fun _ => False⟩ (fun _ => .inl rfl) ⟨fun _ q => q.elim, fun _ q => q.elim, fun _ q => q.elim⟩ (.inr ⟨_, vs.toArray, _, hk, rfl, rfl, rfl, by rw [List.size_toArray, lenV]; exact hl, by simpa using rv⟩) (fun b u z => by cases (show (none : Option HO) = some u from z)) (fun b z => absurd rfl z) fun z => absurd rfl z
  | none =>
    refine main (fun b => if b = a then some (.frz { cls := .type "list", data := .seq vs.toArray } (.lst (ns.map V.int))) else none) ⟨fun b => b = a, fun _ => False⟩ (fun b => ?_) ⟨fun b q => ⟨_, if_pos q⟩, fun _ q => q.elim, fun _ q => q.elim⟩ (.inl ⟨rfl, .inr ⟨{ cls := .type "list", data := .seq vs.toArray }, if_pos rfl⟩⟩) (fun b u z => ?_) (fun b z => ?_) fun _ => hk
    · by_cases q : b = a
      · exact .inr ⟨_, _, if_pos q⟩
      · exact .inl (if_neg q)
    · by_cases q : b = a
      · cases (if_pos q).symm.trans z
        subst q
        exact ⟨ha, by rw [List.length_map]; exact hl, vs, _, rv, ha⟩
      · cases (if_neg q).symm.trans z
    · by_cases q : b = a
      · exact q
      · exact absurd (if_neg q) z
open PyProof.Rows in
/-- the goal that k_head leaves -/
theorem walk_g {l : PySem.W.OpenLaw} {n k : Nat} {q : Program} {loose : List Str} {XP : (Str → Option Value) → Heap → Prop} {YP : World → Heap → Prop} {d : DefRec} {K : Params → PySem.W.Frag} {wf : WF} {x : Str}
    (hn : l.most = some n) (hn2 : n ≤ sizeLine) (hdf : d.params.defaults = []) (hr : Room k callerA) (hY : ∀ (w : World) (h : Heap), YP w h → (K w.params).In h)
    (F : ∀ (w : World) (mg : Str → Option Value) (fa : Addr) (h : Heap), (K w.params).In h → h.Ns mainGlobals mg → mg d.name = some (.ref fa) →
      ∃ fd : FuncData, (∀ (s : Shared) (u : Value), BindsTo s fd ⟨[u], []⟩ [(x, u)]) ∧ ∀ base : Heap, (K w.params).In base → base.Ns mainGlobals mg → FnG l.prog w (K w.params) mg base k fa fd [x] wf)
    (hwf : ∀ ns : List Int, ns.length ≤ n → wf (fun _ => False) [.rls (ns.map .int)] fun s => s = .d (.bl true)) : PySem.W.WalkO q loose XP YP l.row.toRowW d [] (fun f vs => PySem.call f vs) := by
  refine Att.attach_call hn hdf fun w s₀ t0 mg mb fa o pm cd doc a vs ns Gr Y ho hd hcd hmg hobj hints hlen hg => ?_
  obtain ⟨fd, hb, hF⟩ := F w mg fa _ (hY w _ Y) Gr.T.g hmg
  exact law_g (hY w _ Y) Gr.T.g Gr.T.b Gr.T.builtins Gr.T.nolimit hg hobj hints (Nat.le_trans hlen hn2) hr hF hb (hwf ns hlen)
end DL

/-! DL5: own lists, own dicts and jars in slots: read without being frozen, changed. -/
namespace DL
open PySem PySem.Spec L2
section
variable {K : PySem.W.Frag} {G : Gx} {T : WX} {σ : L2.St} {ρ ρ1 : Rho} {W W1 : Wd} {H H1 : Hp}
/-- what slot i denotes now -/
theorem Ok.look (ok : Ok K G W ρ σ H) {i : Nat} {s : S} (h : ρ[i]? = some (some s)) : ∃ x W', σ[i]? = some (some x) ∧ Dn K W' H s.frz x ∧ Rs K W H s x := by
  obtain ⟨x, W2, e, g, d⟩ := ok.freezeSlot h
  obtain ⟨y, e2, r⟩ := ok.val i s h
  rw [e] at e2; cases e2
  exact ⟨x, W2, e, d, r⟩
theorem Dn.up_items {W W' : Wd} {d : D} {x : V} {ds : List D} (h : Dn K W' H d x) (e : d.items = some ds) : ∃ p vs, x = .ref p ∧ (SqL K H p vs ∨ SqT K H p vs) ∧ ds.length = vs.length := by
  obtain ⟨p, vs, a, b, c⟩ := h.seq e
  exact ⟨p, vs, a, b, c.length⟩
/-- the items of a slot's list or tuple, told in the world as it is -/
theorem Rs.seq {s : S} {x : V} {ds : List D} (h : Rs K W H s x) (e : s.frz.items = some ds) : ∃ p vs, x = .ref p ∧ (SqL K H p vs ∨ SqT K H p vs) ∧ DnA K W H ds vs := by
  cases s with
  | d d => exact Dn.seq (K := K) h e
  | own es => cases e; obtain ⟨p, vs, a, b, c⟩ := h; exact ⟨p, vs, a, .inl (SqL.of b), c⟩
  | odic es => cases e
/-- an own object is written in its slot -/
theorem Ok.wslot (ok : Ok K G W ρ σ H) {i : Nat} {s s' : S} {p : Addr} {o : HO} (h : ρ[i]? = some (some s)) (e : σ[i]? = some (some (.ref p))) (hs : s.isOwn = true) (hs' : s'.isOwn = true) (hr : Rs K W (upd H p o) s' (.ref p)) :
    Go K G σ ρ W H (ρ.set i (some s')) W (upd H p o) := by
  have hO : Ow ρ σ p := ⟨i, s, h, hs, e⟩
  obtain ⟨nf, nj, h0⟩ := ok.frs p hO
  obtain ⟨u, hu⟩ := ok.here hO
  have l : Le W H W (upd H p o) := ⟨fun _ h => h, fun _ h => h, fun a q => upd_ne fun z => nf (by rw [← z]; exact q)⟩
  have hi : i < ρ.length := (List.getElem?_eq_some_iff.mp h).1
  have sub : ∀ a, Ow (ρ.set i (some s')) σ a → Ow ρ σ a := fun a ⟨j, d, d1, d2, d3⟩ => by
    rcases set_get d1 with ⟨z1, z2⟩ | ⟨z1, z2⟩
    · subst z1; rw [e] at d3; cases d3; exact hO
    · exact ⟨j, d, z2, d2, d3⟩
  have al : Al W (upd H p o) := ⟨fun a q => by rw [l.k a q]; exact ok.al.f a q, fun a q => by
    obtain ⟨x, y, z, e1, b⟩ := ok.al.j a q
    exact ⟨x, y, z, by rw [upd_ne fun z => nj (by rw [← z]; exact q)]; exact e1, b⟩, ok.al.d⟩
  have up : ∀ a, upd H p o a = none → H a = none := fun a q => by
    by_cases z : a = p
    · subst z; rw [upd_same] at q; cases q
    · rwa [upd_ne z] at q
  refine ⟨⟨by rw [ok.len, List.length_set], fun j d hj => ?_, fun a q => ok.frs a (sub a q), fun j m d d' a h1 h2 o1 o2 s1 s2 => ?_, al, ⟨ok.en.le.trans l, ok.en.nF, ok.en.nJ, fun a v hv nj' no => ?_, fun a q => ok.en.up a (up a q)⟩⟩, ⟨l, fun _ q => .inl q, fun _ q => .inl q, fun a v hv nj' no => ?_, up⟩, sub⟩
  · rcases set_get hj with ⟨z1, z2⟩ | ⟨z1, z2⟩
    · cases z2; subst z1; exact ⟨_, e, hr⟩
    · obtain ⟨y, e1, e2⟩ := ok.val j d z2
      refine ⟨y, e1, e2.le l fun od q eq => upd_ne fun z => z1 ?_⟩
      subst eq z
      exact ok.inj i j s d q h z2 hs od e e1
  · rcases set_get h1 with ⟨z1, z2⟩ | ⟨z1, z2⟩
    · subst z1; cases z2; rw [e] at s1; cases s1
      rcases set_get h2 with ⟨y1, y2⟩ | ⟨y1, y2⟩
      · exact y1
      · exact ok.inj i m s d' p h y2 hs o2 e s2
    · rcases set_get h2 with ⟨y1, y2⟩ | ⟨y1, y2⟩
      · subst y1; cases y2; rw [e] at s2; cases s2
        exact ok.inj j i d s p z2 h o1 hs s1 e
      · exact ok.inj j m d d' a z2 y2 o1 o2 s1 s2
  · rw [upd_ne (ne_of_none hv h0)]; exact ok.en.st a v hv nj' no
  · rw [upd_ne fun z => no (by rw [z]; exact hO)]; exact hv
/-- a jar is written -/
theorem Ok.wjar (ok : Ok K G W ρ σ H) {p : Addr} {x y z : Int} (h : W.J p) (b : -(2 ^ 40) < y ∧ y < 2 ^ 40) : Go K G σ ρ W H ρ W (upd H p (.lst [.int x, .int y, .int z])) := by
  obtain ⟨x0, y0, z0, e0, _⟩ := ok.al.j p h
  refine ok.grow ⟨⟨fun _ h => h, fun _ h => h, fun a q => upd_ne fun z => ok.al.d p h (by rw [← z]; exact q)⟩, fun _ q => .inl q, fun _ q => .inl q, fun a v hv nj _ => by rw [upd_ne (fun z => nj (by rw [z]; exact h))]; exact hv, fun a q => ?_⟩ ⟨fun a q => ?_, fun a q => ?_, ok.al.d⟩
  · by_cases z : a = p
    · subst z; rw [upd_same] at q; cases q
    · rwa [upd_ne z] at q
  · rw [upd_ne fun z => ok.al.d p h (by rw [← z]; exact q)]; exact ok.al.f a q
  · by_cases w : a = p
    · subst w; exact ⟨x, y, z, upd_same, b⟩
    · obtain ⟨x1, y1, z1, e1, b1⟩ := ok.al.j a q
      exact ⟨x1, y1, z1, by rw [upd_ne w]; exact e1, b1⟩
end
section
variable {X : Cx} {G : Gx} {T : WX} {a b c e : Expr} {w wa wb : WE} {pos p apos cpos : Pos} {i : Nat}
/-! ### x[k], x a slot -/
def wIxV (i : Nat) (wk : WE) : WE := fun Z ρ R => (∃ s0, ρ[i]? = some (some s0)) ∧ wk Z ρ fun k ρ1 => match ρ1[i]? with
  | some (some s) => fIx s.frz k.frz fun z => R z ρ1
  | _ => False
theorem de_ixV (i : Nat) {x : Str} (hb : DE X G T b wb) (hN : X.N[i]? = some x := by rfl) (hv : Vis X.env.scope x := by first | exact Or.inl rfl | exact Or.inr (Or.inl rfl) | exact Or.inr (Or.inr rfl)) (hd : (x == ("__debug__" : Str)) = false := by decide)
    (hcd : (x == ("__classdict__" : Str)) = false := by decide) (hs : PlainIx b := by intro _ _; rfl) : DE X G T (.Subscript (.Name x p) b pos) (wIxV i wb) :=
  pe_weak (pe_ix ix_seq (pv i hN hv hd hcd) hb hs) fun σ H Q ⟨W, ρ, R, Z, ok, ⟨⟨s0, e0⟩, h⟩, hR, hZ⟩ => by
    obtain ⟨x, _, ex, _⟩ := ok.look e0
    refine ⟨x, ex, ?_⟩
    refine lE_then (R := fun k ρ1 => match ρ1[i]? with | some (some s) => fIx s.frz k fun z => R z ρ1 | _ => False) ok h hZ fun k ρ1 W1 y H1 h1 g1 d1 => ?_
    split at h1
    · rename_i s e1
      obtain ⟨x', e2, r⟩ := g1.ok.val i s e1
      rw [ex] at e2; cases e2
      cases s with
      | d d => exact od_ix G W1 ρ1 σ H1 d k x y _ Q g1.ok r d1 h1 fun z W' v H' hz g2 r2 => hR z ρ1 W' v H' hz (g1.trans g2) (r2.up g1.stp.up)
      | own es =>
        obtain ⟨q, vs, rfl, hq, da⟩ := r
        cases d1 <;> first | exact h1.elim | skip
        rename_i j
        obtain ⟨es', z, f1, f2, f3⟩ := h1
        cases f1
        obtain ⟨v, e3, e4⟩ := da.atI f2
        exact .inl ⟨q, vs, j, v, rfl, rfl, SqL.of hq, e3, hR _ ρ1 W1 v H1 f3 g1 (.of e4)⟩
      | odic es => cases d1 <;> first | exact h1.elim | (obtain ⟨_, _, f1, _⟩ := h1; cases f1)
    · exact h1.elim
/-! ### len(x), x a slot -/
def wLenV (i : Nat) : WE := fun _ ρ R => match ρ[i]? with
  | some (some s) => fLen [s.frz] fun z => R z ρ
  | _ => False
theorem de_lenV (i : Nat) {x : Str} (hg : Gl X "len") (hm : X.mg "len" = none) (hN : X.N[i]? = some x := by rfl) (hv : Vis X.env.scope x := by first | exact Or.inl rfl | exact Or.inr (Or.inl rfl) | exact Or.inr (Or.inr rfl)) (hd : (x == ("__debug__" : Str)) = false := by decide)
    (hcd : (x == ("__classdict__" : Str)) = false := by decide) (hst : starEach [.Name x pos] X.env = (false, eval (.Name x pos) X.env) :: starEach [] X.env := by rfl) : DE X G T (.Call (.Name "len" p) [.Name x pos] [] cpos) (wLenV i) :=
  pe_weak (pe_callB call_len hg hm PySem.boot_len (pa_cons (pv i hN hv hd hcd) pa_nil hst) (by decide) (by decide) hst rfl) fun σ H Q ⟨W, ρ, R, Z, ok, h, hR, hZ⟩ => by
    unfold wLenV at h
    split at h
    · rename_i s e
      obtain ⟨x, W', ex, d, r⟩ := ok.look e
      refine ⟨x, ex, ?_⟩
      have rs : ∀ es, s.frz.items = some es → ∃ p vs, x = .ref p ∧ (SqL X.K H p vs ∨ SqT X.K H p vs) ∧ DnA X.K W H es vs := fun es q => r.seq q
      generalize s.frz = dd at d h rs
      cases d with
      | str z => exact ⟨_, _, rfl, ⟨h.1, rfl⟩, hR _ _ _ _ _ h.2 (.refl ok) (.of (.int _))⟩
      | _ =>
        obtain ⟨es, e1, e2⟩ := flen_items h fun s q => by cases q
        obtain ⟨q, vs, e3, sq, da⟩ := rs _ e1
        first
          | (cases e3; done)
          | (cases e3
             exact ⟨_, es.length, rfl, sq.imp (fun sq => ⟨_, sq, da.length⟩) (fun sq => ⟨_, sq, da.length⟩), hR _ _ _ _ _ e2 (.refl ok) (.of (.int _))⟩)
    · exact h.elim
/-! ### pure tests with a slot on the left (right) -/
/-- an operation that makes nothing -/
def OpP (K : PySem.W.Frag) (r : R2) (f : D → D → (S → Prop) → Prop) : Prop :=
  ∀ (W : Wd) (H : Hp) (d e : D) (x y : V) (R : S → Prop) (Q : VK), Dn K W H d x → Dn K W H e y → f d e R → (∀ b : Bool, R (.d (.bl b)) → Q (.bl b) H) → r x y H Q
theorem op_p_eq {K : PySem.W.Frag} : OpP K (rEqA K) fEq := by
  intro W H d e x y R Q h g ⟨f, r⟩ k
  rcases Bool.or_eq_true _ _ |>.mp f with o | o
  · obtain ⟨a, b⟩ := scal_of h g o
    exact .inl ⟨a, by rw [b]; exact k _ r⟩
  · simp only [D.okEq, Bool.and_eq_true] at o
    exact .inr ⟨_, _, h.dp o.1.1, g.dp o.2.1, o.1.2, o.2.2, k _ r⟩
theorem op_p_ne {K : PySem.W.Frag} : OpP K (rNeA K) fNe := by
  intro W H d e x y R Q h g ⟨f, r⟩ k
  rcases Bool.or_eq_true _ _ |>.mp f with o | o
  · obtain ⟨a, b⟩ := scal_of h g o
    exact .inl ⟨a, by rw [b]; exact k _ r⟩
  · simp only [D.okEq, Bool.and_eq_true] at o
    exact .inr ⟨_, _, h.dp o.1.1, g.dp o.2.1, o.1.2, o.2.2, k _ r⟩
theorem op_p_in {K : PySem.W.Frag} : OpP K (rIn K false) fIn := by
  intro W H d e x y R Q h h' ⟨ds, f1, f2, f3, f4⟩ k
  obtain ⟨p, vs, rfl, s, a⟩ := h'.seq f1
  refine ⟨p, vs, rfl, s, h.flat f2, a.flat f3, ?_⟩
  simp only [if_neg Bool.false_ne_true]
  rw [DnA.inV h f2 a f3]
  exact k _ f4
theorem op_p_nin {K : PySem.W.Frag} : OpP K (rIn K true) fNin := by
  intro W H d e x y R Q h h' ⟨ds, f1, f2, f3, f4⟩ k
  obtain ⟨p, vs, rfl, s, a⟩ := h'.seq f1
  refine ⟨p, vs, rfl, s, h.flat f2, a.flat f3, ?_⟩
  simp only [if_true]
  rw [DnA.inV h f2 a f3]
  exact k _ f4
def wOpV (i : Nat) (f : D → D → (S → Prop) → Prop) (wb : WE) : WE := fun Z ρ R => (∃ s0, ρ[i]? = some (some s0)) ∧ wb Z ρ fun y ρ1 => match ρ1[i]? with
  | some (some s) => f s.frz y.frz fun z => R z ρ1
  | _ => False
def wOpW (wa : WE) (i : Nat) (f : D → D → (S → Prop) → Prop) : WE := fun Z ρ R => wa Z ρ fun x ρ1 => match ρ1[i]? with
  | some (some s) => f x.frz s.frz fun z => R z ρ1
  | _ => False
theorem lE_opV {K : PySem.W.Frag} {r : R2} {f : D → D → (S → Prop) → Prop} (hp : OpP K r f) {σ : L2.St} {H : Hp} {Q : VK} (h : lE K G T (wOpV i f wb) σ H Q) : tOp r (tVar i) (lE K G T wb) σ H Q := by
  obtain ⟨W, ρ, R, Z, ok, ⟨⟨s0, e0⟩, h⟩, hR, hZ⟩ := h
  obtain ⟨x, _, ex, _⟩ := ok.look e0
  refine ⟨x, ex, ?_⟩
  refine lE_then (R := fun k ρ1 => match ρ1[i]? with | some (some s) => f s.frz k fun z => R z ρ1 | _ => False) ok h hZ fun k ρ1 W1 y H1 h1 g1 d1 => ?_
  split at h1
  · rename_i s e1
    obtain ⟨x', W2, e2, g2, d2⟩ := g1.ok.freezeSlot e1
    rw [ex] at e2; cases e2
    exact hp W2 H1 _ _ x y _ Q d2 (d1.le g2.stp.le) h1 fun b hb => hR _ ρ1 W1 _ H1 hb g1 (.of (.bl b))
  · exact h1.elim
theorem lE_opW {K : PySem.W.Frag} {r : R2} {f : D → D → (S → Prop) → Prop} (hp : OpP K r f) {σ : L2.St} {H : Hp} {Q : VK} (h : lE K G T (wOpW wa i f) σ H Q) : tOp r (lE K G T wa) (tVar i) σ H Q := by
  obtain ⟨W, ρ, R, Z, ok, h, hR, hZ⟩ := h
  refine lE_then (R := fun k ρ1 => match ρ1[i]? with | some (some s) => f k s.frz fun z => R z ρ1 | _ => False) ok h hZ fun k ρ1 W1 y H1 h1 g1 d1 => ?_
  split at h1
  · rename_i s e1
    obtain ⟨x', W2, e2, g2, d2⟩ := g1.ok.freezeSlot e1
    refine ⟨x', e2, ?_⟩
    exact hp W2 H1 _ _ y x' _ Q (d1.le g2.stp.le) d2 h1 fun b hb => hR _ ρ1 W1 _ H1 hb g1 (.of (.bl b))
  · exact h1.elim
theorem de_cmpV {op : CmpOp} {r : R2} {f : D → D → (S → Prop) → Prop} (i : Nat) {x : Str} (hr : OpR X (compareOp op) r) (ho : OpP X.K r f) (hb : DE X G T b wb) (hm : behindInMarks op b = false) (hN : X.N[i]? = some x := by rfl) (hv : Vis X.env.scope x := by first | exact Or.inl rfl | exact Or.inr (Or.inl rfl) | exact Or.inr (Or.inr rfl))
    (hd : (x == ("__debug__" : Str)) = false := by decide) (hcd : (x == ("__classdict__" : Str)) = false := by decide) : DE X G T (.Compare (.Name x p) [op] [b] pos) (wOpV i f wb) :=
  pe_weak (pe_cmpR hr (pv i hN hv hd hcd) hb hm) fun _ _ _ h => lE_opV ho h
theorem dt_cmpV {op : CmpOp} {r : R2} {f : D → D → (S → Prop) → Prop} (i : Nat) {x : Str} (hr : OpR X (compareOp op) r) (ho : OpP X.K r f) (hb : DE X G T b wb) (hm : behindInMarks op b = false) (hN : X.N[i]? = some x := by rfl) (hv : Vis X.env.scope x := by first | exact Or.inl rfl | exact Or.inr (Or.inl rfl) | exact Or.inr (Or.inr rfl))
    (hd : (x == ("__debug__" : Str)) = false := by decide) (hcd : (x == ("__classdict__" : Str)) = false := by decide) : DT X G T (.Compare (.Name x p) [op] [b] pos) (wB (wOpV i f wb)) :=
  pt_weak (pt_cmpR hr (pv i hN hv hd hcd) hb hm) fun _ _ _ h => lT_B (fun _ q => lE_opV ho q) h
theorem de_cmpW {op : CmpOp} {r : R2} {f : D → D → (S → Prop) → Prop} (i : Nat) {x : Str} (hr : OpR X (compareOp op) r) (ho : OpP X.K r f) (ha : DE X G T a wa) (hm : behindInMarks op (.Name x p) = false) (hN : X.N[i]? = some x := by rfl) (hv : Vis X.env.scope x := by first | exact Or.inl rfl | exact Or.inr (Or.inl rfl) | exact Or.inr (Or.inr rfl))
    (hd : (x == ("__debug__" : Str)) = false := by decide) (hcd : (x == ("__classdict__" : Str)) = false := by decide) : DE X G T (.Compare a [op] [.Name x p] pos) (wOpW wa i f) :=
  pe_weak (pe_cmpR hr ha (pv i hN hv hd hcd) hm) fun _ _ _ h => lE_opW ho h
theorem dt_cmpW {op : CmpOp} {r : R2} {f : D → D → (S → Prop) → Prop} (i : Nat) {x : Str} (hr : OpR X (compareOp op) r) (ho : OpP X.K r f) (ha : DE X G T a wa) (hm : behindInMarks op (.Name x p) = false) (hN : X.N[i]? = some x := by rfl) (hv : Vis X.env.scope x := by first | exact Or.inl rfl | exact Or.inr (Or.inl rfl) | exact Or.inr (Or.inr rfl))
    (hd : (x == ("__debug__" : Str)) = false := by decide) (hcd : (x == ("__classdict__" : Str)) = false := by decide) : DT X G T (.Compare a [op] [.Name x p] pos) (wB (wOpW wa i f)) :=
  pt_weak (pt_cmpR hr ha (pv i hN hv hd hcd) hm) fun _ _ _ h => lT_B (fun _ q => lE_opW ho q) h
/-! ### x.append(e) -/
def wApp (i : Nat) (w : WE) : WS := fun E ρ => (∃ d0, ρ[i]? = some (some (.own d0))) ∧ w E.ex ρ fun d ρ1 => match ρ1[i]? with
  | some (some (.own ds)) => ds.length < sizeLine ∧ E.nx (ρ1.set i (some (.own (ds ++ [d.frz]))))
  | _ => False
def wExt (i : Nat) (w : WE) : WS := fun E ρ => (∃ d0, ρ[i]? = some (some (.own d0))) ∧ w E.ex ρ fun d ρ1 => match ρ1[i]?, d.frz with
  | some (some (.own ds)), .lst es => ds.length + es.length ≤ sizeLine ∧ E.nx (ρ1.set i (some (.own (ds ++ es))))
  | _, _ => False
section
variable {x : Str} (hN : X.N[i]? = some x := by rfl) (hv : Vis X.env.scope x := by first | exact Or.inl rfl | exact Or.inr (Or.inl rfl) | exact Or.inr (Or.inr rfl)) (hd : (x == ("__debug__" : Str)) = false := by decide) (hcd : (x == ("__classdict__" : Str)) = false := by decide)
theorem ds_app (i : Nat) (he : DE X G T e w) (hN : X.N[i]? = some x := by rfl) (hv : Vis X.env.scope x := by first | exact Or.inl rfl | exact Or.inr (Or.inl rfl) | exact Or.inr (Or.inr rfl)) (hd : (x == ("__debug__" : Str)) = false := by decide) (hcd : (x == ("__classdict__" : Str)) = false := by decide)
    (hst : starEach [e] X.env = (false, eval e X.env) :: starEach [] X.env := by rfl)
    (hbase : attributeBase (.Name x p) "append" X.env (eval (.Name x p) X.env) = eval (.Name x p) X.env := by rfl)
    (hfew : ((backTo cpos (starEach (e :: []) X.env)).all (fun x => !x.1) && (backToKw cpos (keywordEach [] X.env)).all (fun x => x.1.isSome) && decide ((e :: []).length + ([] : List Keyword).length + (if ([] : List Keyword).isEmpty then 0 else 1) < 30)) = true := by rfl)
    (hline : (apos.endLine == cpos.line) = true := by rfl) (hs : swapsWith (.Call (.Attribute (.Name x p) "append" apos) [e] [] cpos) none pos.line X.env = pure false := by rfl) :
    DS X G T (.Expr (.Call (.Attribute (.Name x p) "append" apos) [e] [] cpos) pos) (wApp i w) :=
  ps_weak (ps_expr (pe_bm PySem.F.plainAttrs_list PySem.F.slot_list_append PySem.F.type_list_append mt_append (pv i hN hv hd hcd) (pa_cons he pa_nil hst) hbase hfew hline hst rfl) hs) fun D σ H ⟨W, ρ, E, ok, ⟨⟨d0, e0⟩, h⟩, hn, hr, hb, hc, hx⟩ => by
    obtain ⟨y, ey, ⟨q, vs0, rfl, hq, _⟩⟩ := ok.val i _ e0
    refine ⟨_, ey, .inl ⟨rfl, vs0, SqL.of hq⟩, ?_⟩
    refine lE_then (R := fun d ρ1 => match ρ1[i]? with | some (some (.own ds)) => ds.length < sizeLine ∧ E.nx (ρ1.set i (some (.own (ds ++ [d])))) | _ => False) ok h (hx.z σ ρ) fun d ρ1 W1 x1 H1 h1 g1 d1 => ?_
    split at h1
    · rename_i ds e1
      obtain ⟨y1, ey1, ⟨q1, vs, rfl, hq1, da⟩⟩ := g1.ok.val i _ e1
      rw [ey] at ey1; cases ey1
      have nf := (g1.ok.frs q ⟨i, _, e1, rfl, ey⟩).1
      have l : Le W1 H1 W1 (upd H1 q (.lst (vs ++ [x1]))) := ⟨fun _ h => h, fun _ h => h, fun a z => upd_ne fun z2 => nf (by rw [← z2]; exact z)⟩
      have g2 := g1.ok.wslot (s' := .own (ds ++ [d])) (o := .lst (vs ++ [x1])) e1 ey rfl rfl ⟨q, _, rfl, upd_same, (da.append (.cons d1 .nil)).le l⟩
      exact ⟨q, vs, x1, rfl, rfl, hq1, by rw [← da.length]; exact h1.1, hn _ W1 σ _ h1.2 g2.ok (g1.stp.le.trans g2.stp.le)⟩
    · exact h1.elim
theorem ds_ext (i : Nat) (he : DE X G T e w) (hN : X.N[i]? = some x := by rfl) (hv : Vis X.env.scope x := by first | exact Or.inl rfl | exact Or.inr (Or.inl rfl) | exact Or.inr (Or.inr rfl)) (hd : (x == ("__debug__" : Str)) = false := by decide) (hcd : (x == ("__classdict__" : Str)) = false := by decide)
    (hst : starEach [e] X.env = (false, eval e X.env) :: starEach [] X.env := by rfl)
    (hbase : attributeBase (.Name x p) "extend" X.env (eval (.Name x p) X.env) = eval (.Name x p) X.env := by rfl)
    (hfew : ((backTo cpos (starEach (e :: []) X.env)).all (fun x => !x.1) && (backToKw cpos (keywordEach [] X.env)).all (fun x => x.1.isSome) && decide ((e :: []).length + ([] : List Keyword).length + (if ([] : List Keyword).isEmpty then 0 else 1) < 30)) = true := by rfl)
    (hline : (apos.endLine == cpos.line) = true := by rfl) (hs : swapsWith (.Call (.Attribute (.Name x p) "extend" apos) [e] [] cpos) none pos.line X.env = pure false := by rfl) :
    DS X G T (.Expr (.Call (.Attribute (.Name x p) "extend" apos) [e] [] cpos) pos) (wExt i w) :=
  ps_weak (ps_expr (pe_bm PySem.F.plainAttrs_list PySem.F.slot_list_extend PySem.F.type_list_extend mt_extend (pv i hN hv hd hcd) (pa_cons he pa_nil hst) hbase hfew hline hst rfl) hs) fun D σ H ⟨W, ρ, E, ok, ⟨⟨d0, e0⟩, h⟩, hn, hr, hb, hc, hx⟩ => by
    obtain ⟨y, ey, ⟨q, vs0, rfl, hq, _⟩⟩ := ok.val i _ e0
    refine ⟨_, ey, .inl ⟨rfl, vs0, SqL.of hq⟩, ?_⟩
    refine lE_then (R := fun d ρ1 => match ρ1[i]?, d with | some (some (.own ds)), .lst es => ds.length + es.length ≤ sizeLine ∧ E.nx (ρ1.set i (some (.own (ds ++ es)))) | _, _ => False) ok h (hx.z σ ρ) fun d ρ1 W1 x1 H1 h1 g1 d1 => ?_
    split at h1
    · rename_i ds es e1
      obtain ⟨y1, ey1, ⟨q1, vs, rfl, hq1, da⟩⟩ := g1.ok.val i _ e1
      rw [ey] at ey1; cases ey1
      have nf := (g1.ok.frs q ⟨i, _, e1, rfl, ey⟩).1
      cases d1 with
      | lst f2 f3 f4 =>
        rename_i a2 zs
        have l : Le W1 H1 W1 (upd H1 q (.lst (vs ++ zs))) := ⟨fun _ h => h, fun _ h => h, fun a z => upd_ne fun z2 => nf (by rw [← z2]; exact z)⟩
        have g2 := g1.ok.wslot (s' := .own (ds ++ es)) (o := .lst (vs ++ zs)) e1 ey rfl rfl ⟨q, _, rfl, upd_same, (da.append f4).le l⟩
        exact ⟨q, a2, vs, zs, rfl, rfl, hq1, f3, by rw [← da.length, ← f4.length]; exact h1.1, hn _ W1 σ _ h1.2 g2.ok (g1.stp.le.trans g2.stp.le)⟩
    · exact h1.elim
end
/-! ### x[k] = e, x a slot: an own list, a jar -/
def sIx (s : S) (k d : D) (N : S → Prop) : Prop := match s, k with
  | .own ds, .int j => ∃ n, ixN ds.length j = some n ∧ N (.own (ds.set n d))
  | .d .jar, .int j => (j = 0 ∨ j = 1 ∨ j = 2) ∧ (∃ n : Int, d = .int n ∧ (j = 1 → -(2 ^ 40) < n ∧ n < 2 ^ 40)) ∧ N (.d .jar)
  | _, _ => False
def wSetIx (i : Nat) (wk w : WE) : WS := fun E ρ => w E.ex ρ fun d ρ1 => (∃ s0, ρ1[i]? = some (some s0)) ∧ wk E.ex ρ1 fun k ρ2 => match ρ2[i]? with
  | some (some s) => sIx s k.frz d.frz fun s' => E.nx (if s.isOwn = true then ρ2.set i (some s') else ρ2)
  | _ => False
theorem ds_setIx (i : Nat) {x : Str} {idx : Expr} {wk : WE} {tpos : Pos} (he : DE X G T e w) (hk : DE X G T idx wk) (hN : X.N[i]? = some x := by rfl) (hv : Vis X.env.scope x := by first | exact Or.inl rfl | exact Or.inr (Or.inl rfl) | exact Or.inr (Or.inr rfl)) (hd : (x == ("__debug__" : Str)) = false := by decide) (hcd : (x == ("__classdict__" : Str)) = false := by decide)
    (ha : ∀ v, assign (.Subscript (.Name x p) idx tpos) X.env v = (do
      let ov ← holding [v] (eval (.Name x p) X.env)
      let iv ← holding [v, ov] (eval idx X.env)
      standAt tpos
      holding [v, ov, iv] (setItem ov iv v)
      release [v, ov, iv] []) := by intro _; rfl)
    (hs : swapsWithSole [.Subscript (.Name x p) idx tpos] e pos.line X.env = pure false := by rfl) (hw : swappedStores [.Subscript (.Name x p) idx tpos] e X.env = pure none := by rfl)
    (h1 : (assignEach [.Subscript (.Name x p) idx tpos] X.env).map (·.2) = [assign (.Subscript (.Name x p) idx tpos) X.env] := by rfl) :
    DS X G T (.Assign [.Subscript (.Name x p) idx tpos] e pos) (wSetIx i wk w) :=
  ps_weak (ps_asg he (pg_sub (pv i hN hv hd hcd) hk set_list ha) hs hw h1) fun D σ H ⟨W, ρ, E, ok, h, hn, hr, hb, hc, hx⟩ => by
    refine lE_then (R := fun d ρ1 => (∃ s0, ρ1[i]? = some (some s0)) ∧ wk E.ex ρ1 fun k ρ2 => match ρ2[i]? with
      | some (some s) => sIx s k.frz d fun s' => E.nx (if s.isOwn = true then ρ2.set i (some s') else ρ2)
      | _ => False) ok h (hx.z σ ρ) fun d ρ1 W1 x1 H1 ⟨⟨s0, e0⟩, h1⟩ g1 d1 => ?_
    obtain ⟨y, _, ey, _⟩ := g1.ok.look e0
    refine ⟨y, ey, ?_⟩
    refine lE_then (R := fun k ρ2 => match ρ2[i]? with
      | some (some s) => sIx s k d fun s' => E.nx (if s.isOwn = true then ρ2.set i (some s') else ρ2)
      | _ => False) g1.ok h1 ((hx.z σ ρ).go g1) fun k ρ2 W2 x2 H2 h2 g2 d2 => ?_
    have g12 := g1.trans g2
    split at h2
    · rename_i s e2
      obtain ⟨y1, ey1, r⟩ := g2.ok.val i _ e2
      rw [ey] at ey1; cases ey1
      have d1' := d1.le g2.stp.le
      cases s with
      | own ds =>
        obtain ⟨q, vs, rfl, hq, da⟩ := r
        cases d2 <;> first | exact h2.elim | skip
        rename_i j
        obtain ⟨n, hn1, hN'⟩ := h2
        simp only [S.isOwn, if_true] at hN'
        have nf := (g2.ok.frs q ⟨i, _, e2, rfl, ey⟩).1
        have l : Le W2 H2 W2 (upd H2 q (.lst (vs.set n x1))) := ⟨fun _ h => h, fun _ h => h, fun a z => upd_ne fun z2 => nf (by rw [← z2]; exact z)⟩
        have g3 := g2.ok.wslot (s' := .own (ds.set n d)) (o := .lst (vs.set n x1)) e2 ey rfl rfl ⟨q, _, rfl, upd_same, (DnA.set d1' n da).le l⟩
        exact ⟨q, vs, j, n, rfl, rfl, hq, by rw [← da.length]; exact hn1, hn _ W2 σ _ hN' g3.ok (g12.stp.le.trans g3.stp.le)⟩
      | odic es => exact (by cases d2 <;> exact h2.elim)
      | d z =>
        cases z <;> first | (cases d2 <;> exact False.elim h2) | skip
        cases d2 <;> first | exact False.elim h2 | skip
        rename_i j
        obtain ⟨hj, ⟨n, rfl, hb⟩, hN'⟩ := h2
        simp only [S.isOwn, Bool.false_eq_true, if_false] at hN'
        have r' : Dn X.K W2 H2 .jar y := r
        cases r' with
        | jar ja =>
          obtain ⟨x0, y0, z0, e3, b3⟩ := g2.ok.al.j _ ja
          cases d1'
          rcases hj with rfl | rfl | rfl
          · have g3 := g2.ok.wjar (x := n) (y := y0) (z := z0) ja b3
            exact ⟨_, _, 0, 0, rfl, rfl, e3, rfl, hn _ W2 σ _ hN' g3.ok (g12.stp.le.trans g3.stp.le)⟩
          · have g3 := g2.ok.wjar (x := x0) (y := n) (z := z0) ja (hb rfl)
            exact ⟨_, _, 1, 1, rfl, rfl, e3, rfl, hn _ W2 σ _ hN' g3.ok (g12.stp.le.trans g3.stp.le)⟩
          · have g3 := g2.ok.wjar (x := x0) (y := y0) (z := n) ja b3
            exact ⟨_, _, 2, 2, rfl, rfl, e3, rfl, hn _ W2 σ _ hN' g3.ok (g12.stp.le.trans g3.stp.le)⟩
    · exact h2.elim
/-! ### a def's answer, a list of three ints of its own, is a jar from now on -/
theorem FnG.jar {P : Program} {w : World} {K : PySem.W.Frag} {mg : Str → Option Value} {base : Heap} {k : Nat} {f : Addr} {fd : FuncData} {ps : List Str} {wf wf' : WF} (F : FnG P w K mg base k f fd ps wf)
    (h : ∀ Z ds R, ds.length = ps.length → wf' Z ds R → wf Z ds fun s => ∃ x y z : Int, s = .own [.int x, .int y, .int z] ∧ (-(2 ^ 40) < y ∧ y < 2 ^ 40) ∧ R (.d .jar)) : FnG P w K mg base k f fd ps wf' :=
  fun A outer s H args us vs ds W R Z Q E hg hr e0 hbd r hlen al da hwf hQ hE => F A outer s H args us vs ds W _ Z Q E hg hr e0 hbd r hlen al da (h Z ds R hlen hwf) (fun d W' x H' ⟨i, j, l, e, b, hR⟩ rt => by
    subst e
    obtain ⟨q, vs', rfl, hq, dd⟩ := rt.res.rs
    obtain ⟨nf, nj, h0⟩ := rt.res.fr rfl q rfl
    have ev : vs' = [.int i, .int j, .int l] := DnA.map_int (ns := [i, j, l]) dd
    subst ev
    refine hQ _ (W'.addJ q) _ H' hR ⟨⟨rt.al.f, fun a z => z.elim (rt.al.j a) fun e => ⟨i, j, l, by rw [e]; exact hq, b⟩, fun a z => z.elim (rt.al.d a) fun e => by rw [e]; exact nf⟩, ⟨⟨rt.stp.le.F, fun a z => .inl (rt.stp.le.J a z), rt.stp.le.k⟩, rt.stp.nF, fun a z => z.elim (rt.stp.nJ a) fun e => .inr (by rw [e]; exact h0), rt.stp.st, rt.stp.up⟩, .of (.jar (.inr rfl))⟩) hE
end
end DL

/-! DL6: defs by their names. -/
namespace DL
open PySem PySem.Spec L2
/-- the def named x at the module's top does what wf says -/
def Df (P : Program) (w : World) (K : PySem.W.Frag) (mg : Str → Option Value) (base : Heap) (k : Nat) (x : Str) (st : Stmt) (ps : List Str) (wf : WF) : Prop :=
  ∃ f fd, mg x = some (.ref f) ∧ Fun K x x st f fd ∧ Binds K fd ps [] ∧ FnG P w K mg base k f fd ps wf
def Raw (K : PySem.W.Frag) (mg : Str → Option Value) (x : Str) (st : Stmt) : Prop := ∃ f fd, mg x = some (.ref f) ∧ Fun K x x st f fd
theorem raw_mk {K : PySem.W.Frag} {h : Heap} {mg : Str → Option Value} {x : Str} {st : Stmt} (X : K.In h) (G : h.Ns mainGlobals mg) {f : Addr} {od an : Option Addr} {sl : Array (Option Value)} {oc kV dc pm cd ct : Value}
    (a : PySem.W.nsIn K mainGlobals x = some (some (.ref f))) (l : K.lookup f = some ⟨oc, od, .func (PySem.W.fnOf x x (defArgs st) (defBody st) (defScope st) .none kV dc pm an cd ct), sl⟩) (c : PySem.W.codeIn K cd x = true) (k : PySem.W.keepIn K (.ref f) = true) : Raw K mg x st :=
  ⟨f, _, PySem.W.mg_of X G a, fun_mk (st := st) l c k⟩
theorem df_of {P : Program} {w : World} {K : PySem.W.Frag} {mg : Str → Option Value} {base : Heap} {x : Str} {st : Stmt} {N ps : List Str} {k : Nat} {wf : WF} {wb : WS} (r : Raw K mg x st) (Sc : FnScope N ps (defScope st))
    (hbi : ∀ (kV doc pm : Value) (an : Option Addr) (cdv ct : Value) (us : List Value), us.length = ps.length → bindArgs (PySem.W.fnOf x x (defArgs st) (defBody st) (defScope st) .none kV doc pm an cdv ct) ⟨us, []⟩ = pure (ps.zip us))
    (hw : ∀ Z ds R, ds.length = ps.length → wf Z ds R → wb ⟨fun _ => R (.d .non), R, fun _ => False, fun _ => False, fun x _ => Z x⟩ (rho0 N ds))
    (hb : ∀ (f : Addr) (cdv : Value) (A : Around) (outer : List PySem.Env) (s : Shared) (H : Hp) (E : XK) (W : Wd), CxG (cxOf (L2.CX P w) P w K mg base N x (defScope st) f cdv A outer s H E) (fun cls d _ H => E cls d H) k →
      DSs (cxOf (L2.CX P w) P w K mg base N x (defScope st) f cdv A outer s H E) ⟨W, H⟩ (fun cls d _ H => E cls d H) (defBody st) wb) : Df P w K mg base (k + 1) x st ps wf := by
  obtain ⟨f, fd, h1, F⟩ := r
  exact ⟨f, fd, h1, F, F.binds hbi, ok_def F Sc hw (hb f)⟩
theorem Df.imp {P : Program} {w : World} {K : PySem.W.Frag} {mg : Str → Option Value} {base : Heap} {k : Nat} {x : Str} {st : Stmt} {ps : List Str} {wf wf' : WF} (F : Df P w K mg base k x st ps wf) (h : ∀ Z ds R, ds.length = ps.length → wf' Z ds R → wf Z ds R) : Df P w K mg base k x st ps wf' := by
  obtain ⟨f, fd, h1, h2, h3, h4⟩ := F
  exact ⟨f, fd, h1, h2, h3, h4.imp h⟩
theorem Df.jar {P : Program} {w : World} {K : PySem.W.Frag} {mg : Str → Option Value} {base : Heap} {k : Nat} {x : Str} {st : Stmt} {ps : List Str} {wf wf' : WF} (F : Df P w K mg base k x st ps wf)
    (h : ∀ Z ds R, ds.length = ps.length → wf' Z ds R → wf Z ds fun s => ∃ x y z : Int, s = .own [.int x, .int y, .int z] ∧ (-(2 ^ 40) < y ∧ y < 2 ^ 40) ∧ R (.d .jar)) : Df P w K mg base k x st ps wf' := by
  obtain ⟨f, fd, h1, h2, h3, h4⟩ := F
  exact ⟨f, fd, h1, h2, h3, h4.jar h⟩
section
variable {X : Cx} {G : Gx} {T : WX} {k j : Nat} {ps : List Str} {wf : WF}
theorem de_callD {x : Str} {st : Stmt} {p pos : Pos} {e : Expr} {es : List Expr} {u : WA} (C : CxG X T k) (F : Df X.prog X.w X.K X.mg X.base j x st ps wf) (hj : j ≤ k) (ha : DA X G T (e :: es) u)
    (hg : Gl X x := by rfl) (hdb : (x == ("__debug__" : Str)) = false := by decide) (he : starEach (e :: es) X.env = (false, eval e X.env) :: starEach es X.env := by rfl) (hpl : (backTo pos (starEach es X.env)).any (·.1) = false := by rfl) :
    DE X G T (.Call (.Name x p) (e :: es) [] pos) (wCall ps.length wf u) := by
  obtain ⟨f, fd, h1, h2, h3, h4⟩ := F
  exact de_call C h4 hj h1 h2.kp h3 ha hg hdb he hpl
/-! ### keywords -/
def DK (X : Cx) (G : Gx) (T : WX) (kws : List Keyword) (w : WA) : Prop := PK X kws (lA X.K G T w)
theorem dk_nil : DK X G T [] wNil := ⟨fun po p s σ H Q I ⟨W, ρ, R, Z, ok, h, hR, hZ⟩ => pk_nil.run po p s σ H Q I (hR _ _ _ _ _ h (.refl ok) .nil)⟩
theorem dk_cons {nm : Option Str} {e : Expr} {kpos : Pos} {kws : List Keyword} {wa : WE} {u : WA} (ha : DE X G T e wa) (hr : DK X G T kws u) : DK X G T (⟨nm, e, kpos⟩ :: kws) (wCons wa u) :=
  ⟨fun po p s σ H Q I ⟨W, ρ, R, Z, ok, h, hR, hZ⟩ => (pk_cons (te := lE X.K G T wa) (t := lA X.K G T u) ha hr).run po p s σ H Q I (by
    refine lE_then (R := fun x ρ1 => u Z ρ1 fun xs ρ2 => R (x :: xs) ρ2) ok h hZ fun d ρ1 W1 x H1 h1 g1 d1 => ?_
    exact ⟨W1, ρ1, _, Z, g1.ok, h1, fun ds ρ2 W2 xs H2 h2 g2 d2 => hR _ _ _ _ _ h2 (g1.trans g2) (.cons (d1.le g2.stp.le) d2), hZ.go g1⟩)⟩
/-- the values in the parameters' order -/
def permL {α : Type} (x0 : α) (is : List Nat) (l : List α) : List α := is.map fun i => l.getD i x0
def wCallK (n n1 n2 : Nat) (is : List Nat) (wf : WF) (u uk : WA) : WE := fun Z ρ R => u Z ρ fun ds ρ1 => ds.length = n1 ∧ uk Z ρ1 fun es ρ2 => es.length = n2 ∧ (permL .non is (ds ++ es)).length = n ∧ (∀ i ∈ is, i < (ds ++ es).length) ∧ wf (fun x => Z x ρ2) (permL .non is (ds ++ es)) fun s => R s ρ2
theorem vals_perm {vs : List V} {us : List Value} (r : Vals vs us) : ∀ {is : List Nat}, (∀ i ∈ is, i < vs.length) → Vals (permL .non is vs) (permL .none is us)
  | [], _ => .nil
  | i :: is, h => by
    have hi := h i (List.mem_cons_self ..)
    obtain ⟨u, e, ru⟩ := r.get (List.getElem?_eq_getElem hi)
    refine .cons ?_ (vals_perm r fun j hj => h j (List.mem_cons_of_mem _ hj))
    show RelV (vs.getD i .non) (us.getD i .none)
    rw [List.getD_eq_getElem?_getD, List.getD_eq_getElem?_getD, e, List.getElem?_eq_getElem hi]
    exact ru
theorem dna_perm {K : PySem.W.Frag} {W : Wd} {H : Hp} {ds : List D} {vs : List V} (r : DnA K W H ds vs) : ∀ {is : List Nat}, (∀ i ∈ is, i < ds.length) → DnA K W H (permL .non is ds) (permL .non is vs)
  | [], _ => .nil
  | i :: is, h => by
    have hi := h i (List.mem_cons_self ..)
    obtain ⟨u, e, ru⟩ := r.get (List.getElem?_eq_getElem hi)
    refine .cons ?_ (dna_perm r fun j hj => h j (List.mem_cons_of_mem _ hj))
    show Dn K W H (ds.getD i .non) (vs.getD i .non)
    rw [List.getD_eq_getElem?_getD, List.getD_eq_getElem?_getD, e, List.getElem?_eq_getElem hi]
    exact ru
theorem de_callK {x : Str} {st : Stmt} {p pos : Pos} {e : Expr} {es : List Expr} {kws : List Keyword} {u uk : WA} (is : List Nat) (ks : List Str) (C : CxG X T k) (F : Df X.prog X.w X.K X.mg X.base j x st ps wf) (hj : j ≤ k) (ha : DA X G T (e :: es) u) (hkw : DK X G T kws uk)
    (hbi : ∀ (kV doc pm : Value) (an : Option Addr) (cdv ct : Value) (us ws : List Value), us.length = (e :: es).length → ws.length = ks.length → bindArgs (PySem.W.fnOf x x (defArgs st) (defBody st) (defScope st) .none kV doc pm an cdv ct) ⟨us, ks.zip ws⟩ = pure (ps.zip (permL .none is (us ++ ws))))
    (hall : (backToKw pos (keywordEach kws X.env)).all (·.1.isSome) = true := by rfl) (hks : (backToKw pos (keywordEach kws X.env)).filterMap (·.1) = ks := by rfl)
    (hg : Gl X x := by rfl) (hdb : (x == ("__debug__" : Str)) = false := by decide) (he : starEach (e :: es) X.env = (false, eval e X.env) :: starEach es X.env := by rfl)
    (hpl : ((backTo pos (starEach (e :: es) X.env)).any (·.1) || (backToKw pos (keywordEach kws X.env)).any (·.1.isNone)) = false := by rfl) :
    DE X G T (.Call (.Name x p) (e :: es) kws pos) (wCallK ps.length (e :: es).length ks.length is wf u uk) := by
  obtain ⟨f, fd, h1, Fu, h3, h4⟩ := F
  refine ⟨fun pins s σ H Q I ⟨W, ρ, R, Z, ok, h, hR, hZ⟩ => ?_⟩
  refine wpAny_Call_Name_kw (ld_glob I hg h1 ?_ hdb)
  have args : lA X.K G T u σ H fun vs H1 => ∃ ds W1 ρ1, Go X.K G σ ρ W H ρ1 W1 H1 ∧ DnA X.K W1 H1 ds vs ∧ ds.length = (e :: es).length ∧ uk Z ρ1 fun es2 ρ2 => es2.length = ks.length ∧ (permL .non is (ds ++ es2)).length = ps.length ∧ (∀ i ∈ is, i < (ds ++ es2).length) ∧ wf (fun x => Z x ρ2) (permL .non is (ds ++ es2)) fun s => R s ρ2 :=
    ⟨W, ρ, _, Z, ok, h, fun ds ρ1 W1 xs H1 ⟨h1, h2⟩ g d => ⟨ds, W1, ρ1, g, d, h1, h2⟩, hZ⟩
  refine PySem.W.callWith_KW (h₀ := X.base) I.ok.mod.kin Fu.kp hall (thn (ha.run pos pins s σ H _ I args) fun us s1 ⟨vs, H1, I1, r, ds, W1, ρ1, g, d, l1, hh⟩ => ?_) hpl he
  have kargs : lA X.K G T uk σ H1 fun zs H2 => ∃ es2 W2 ρ2, Go X.K G σ ρ1 W1 H1 ρ2 W2 H2 ∧ DnA X.K W2 H2 es2 zs ∧ es2.length = ks.length ∧ (permL .non is (ds ++ es2)).length = ps.length ∧ (∀ i ∈ is, i < (ds ++ es2).length) ∧ wf (fun x => Z x ρ2) (permL .non is (ds ++ es2)) fun s => R s ρ2 :=
    ⟨W1, ρ1, _, Z, g.ok, hh, fun ds ρ1 W1 xs H1 ⟨h1, h2⟩ g d => ⟨ds, W1, ρ1, g, d, h1, h2⟩, hZ.go g⟩
  refine thn (hkw.run pos pins s1 σ H1 _ I1 kargs) fun ws s2 ⟨zs, H2, I2, rz, es2, W2, ρ2, g2, d2, l2, l3, l4, hw⟩ => ⟨I2.kIn, ?_⟩
  rw [hks]
  have da := (d.le g2.stp.le).append d2
  have dp := dna_perm da l4
  have rp := vals_perm (r.append rz) (is := is) (by rw [← da.length]; exact l4)
  obtain ⟨oc, od, kV, doc, pm, an, cdv, ct, osl, rfl, lk, hcd⟩ := Fu.ex
  have bt : BindsTo s2 (PySem.W.fnOf x x (defArgs st) (defBody st) (defScope st) .none kV doc pm an cdv ct) ⟨us, ks.zip ws⟩ (ps.zip (permL .none is (us ++ ws))) :=
    .of_eq (hbi kV doc pm an cdv ct us ws (by rw [← r.length, ← d.length]; exact l1) (by rw [← rz.length, ← d2.length]; exact l2))
  refine wpAny_call (codeAny_mono (run_g C h4 hj bt I2 rp l3 g2.ok dp hw (fun d W' x H' hr g' rs => hR d ρ2 W' x H' hr ((g.trans g2).trans g') (rs.up (g.trans g2).stp.up)) fun x W' H' c dx hz g' ex => hZ x ρ2 W' H' c dx hz ((g.trans g2).trans g') ex) fun r s' hq => ?_)
  match r, hq with
  | .error e, hq => exact hq
  | .ok (.ret u), hq => exact hq
/-- keywords alone -/
theorem de_callK0 {x : Str} {st : Stmt} {p pos : Pos} {kws : List Keyword} {uk : WA} (is : List Nat) (ks : List Str) (C : CxG X T k) (F : Df X.prog X.w X.K X.mg X.base j x st ps wf) (hj : j ≤ k) (hkw : DK X G T kws uk)
    (hbi : ∀ (kV doc pm : Value) (an : Option Addr) (cdv ct : Value) (ws : List Value), ws.length = ks.length → bindArgs (PySem.W.fnOf x x (defArgs st) (defBody st) (defScope st) .none kV doc pm an cdv ct) ⟨[], ks.zip ws⟩ = pure (ps.zip (permL .none is ws)))
    (hall : (backToKw pos (keywordEach kws X.env)).all (·.1.isSome) = true := by rfl) (hks : (backToKw pos (keywordEach kws X.env)).filterMap (·.1) = ks := by rfl)
    (hg : Gl X x := by rfl) (hdb : (x == ("__debug__" : Str)) = false := by decide)
    (hpl : ((backTo pos (starEach [] X.env)).any (·.1) || (backToKw pos (keywordEach kws X.env)).any (·.1.isNone)) = false := by rfl) :
    DE X G T (.Call (.Name x p) [] kws pos) (wCallK ps.length 0 ks.length is wf wNil uk) := by
  obtain ⟨f, fd, h1, Fu, h3, h4⟩ := F
  refine ⟨fun pins s σ H Q I ⟨W, ρ, R, Z, ok, h, hR, hZ⟩ => ?_⟩
  refine wpAny_Call_Name_kw (ld_glob I hg h1 ?_ hdb)
  refine PySem.W.callWith_KW0 (h₀ := X.base) I.ok.mod.kin Fu.kp hall ?_ hpl
  have kargs : lA X.K G T uk σ H fun zs H2 => ∃ es2 W2 ρ2, Go X.K G σ ρ W H ρ2 W2 H2 ∧ DnA X.K W2 H2 es2 zs ∧ es2.length = ks.length ∧ (permL .non is es2).length = ps.length ∧ (∀ i ∈ is, i < es2.length) ∧ wf (fun x => Z x ρ2) (permL .non is es2) fun s => R s ρ2 :=
    ⟨W, ρ, _, Z, ok, h.2, fun ds ρ1 W1 xs H1 ⟨h1, h2⟩ g d => ⟨ds, W1, ρ1, g, d, h1, h2⟩, hZ⟩
  refine thn (hkw.run pos pins s σ H _ I kargs) fun ws s2 ⟨zs, H2, I2, rz, es2, W2, ρ2, g2, d2, l2, l3, l4, hw⟩ => ⟨I2.kIn, ?_⟩
  rw [hks]
  have dp := dna_perm d2 l4
  have rp := vals_perm rz (is := is) (by rw [← d2.length]; exact l4)
  obtain ⟨oc, od, kV, doc, pm, an, cdv, ct, osl, rfl, lk, hcd⟩ := Fu.ex
  have bt : BindsTo s2 (PySem.W.fnOf x x (defArgs st) (defBody st) (defScope st) .none kV doc pm an cdv ct) ⟨[], ks.zip ws⟩ (ps.zip (permL .none is ws)) :=
    .of_eq (hbi kV doc pm an cdv ct ws (by rw [← rz.length, ← d2.length]; exact l2))
  refine wpAny_call (codeAny_mono (run_g C h4 hj bt I2 rp l3 g2.ok dp hw (fun d W' x H' hr g' rs => hR d ρ2 W' x H' hr (g2.trans g') (rs.up g2.stp.up)) fun x W' H' c dx hz g' ex => hZ x ρ2 W' H' c dx hz (g2.trans g') ex) fun r s' hq => ?_)
  match r, hq with
  | .error e, hq => exact hq
  | .ok (.ret u), hq => exact hq
theorem de_gintE {x : Str} {i : Int} {pos : Pos} (hm : ∃ t, X.mg x = some (.int i t)) (hg : Gl X x := by rfl) (hd : (x == ("__debug__" : Str)) = false := by decide) : DE X G T (.Name x pos) (wC (.int i)) := by
  obtain ⟨t, h⟩ := hm
  exact de_gint hg h hd
theorem de_gstrE {x : Str} {i : Str} {pos : Pos} (hm : ∃ t, X.mg x = some (.str i t)) (hg : Gl X x := by rfl) (hd : (x == ("__debug__" : Str)) = false := by decide) : DE X G T (.Name x pos) (wC (.str i)) := by
  obtain ⟨t, h⟩ := hm
  exact de_gstr hg h hd
end
theorem gint_mk {K : PySem.W.Frag} {h : Heap} {mg : Str → Option Value} {x : Str} {i : Int} {t : Tok} (X : K.In h) (G : h.Ns mainGlobals mg) (a : PySem.W.nsIn K mainGlobals x = some (some (.int i t))) : ∃ t, mg x = some (.int i t) := ⟨t, PySem.W.mg_of X G a⟩
theorem gstr_mk {K : PySem.W.Frag} {h : Heap} {mg : Str → Option Value} {x : Str} {i : Str} {t : Tok} (X : K.In h) (G : h.Ns mainGlobals mg) (a : PySem.W.nsIn K mainGlobals x = some (some (.str i t))) : ∃ t, mg x = some (.str i t) := ⟨t, PySem.W.mg_of X G a⟩
/-- the law's def is run -/
theorem end_of {P : Program} {w : World} {K : PySem.W.Frag} {mg : Str → Option Value} {k : Nat} {x : Str} {p : Str} {wf : WF} {fa : Addr} {h : Heap} (KX : K.In h) (Gn : h.Ns mainGlobals mg) (hfa : mg x = some (.ref fa)) {st : Stmt} (r : Raw K mg x st)
    (hbi : ∀ (kV doc pm : Value) (an : Option Addr) (cdv ct : Value) (s : Shared) (v : Value), BindsTo s (PySem.W.fnOf x x (defArgs st) (defBody st) (defScope st) .none kV doc pm an cdv ct) ⟨[v], []⟩ [(p, v)])
    (F : ∀ base : Heap, Df P w K mg base k x st [p] wf) :
    ∃ fd : FuncData, (∀ (s : Shared) (u : Value), BindsTo s fd ⟨[u], []⟩ [(p, u)]) ∧ ∀ base : Heap, K.In base → base.Ns mainGlobals mg → FnG P w K mg base k fa fd [p] wf := by
  obtain ⟨f, fd, h1, Fu⟩ := r
  rw [hfa] at h1
  cases h1
  obtain ⟨oc, od, kV, doc, pm, an, cdv, ct, osl, rfl, lk, hcd⟩ := Fu.ex
  refine ⟨_, hbi kV doc pm an cdv ct, fun base _ _ => ?_⟩
  obtain ⟨f', fd', g1, g2, g3, g4⟩ := F base
  rw [hfa] at g1
  cases g1
  obtain ⟨oc2, od2, _, _, _, _, _, _, sl2, _, l2, _⟩ := g2.ex
  rw [lk] at l2
  cases l2
  exact g4
end DL

/-! DL5b: slices, range with a step, three names at once. -/
namespace DL
open PySem PySem.Spec L2
section
variable {X : Cx} {G : Gx} {T : WX} {a b c e : Expr} {w wa wb wc : WE} {pos p p2 : Pos} {i : Nat}
abbrev WO := ZK → Rho → (Option Int → Rho → Prop) → Prop
def lO (K : PySem.W.Frag) (G : Gx) (T : WX) (w : WO) : TO := fun σ H Q => ∃ (W : Wd) (ρ : Rho) (R : Option Int → Rho → Prop) (Z : ZK), Ok K G W ρ σ H ∧ w Z ρ R ∧ (∀ o ρ' W' H', R o ρ' → Go K G σ ρ W H ρ' W' H' → Q o H') ∧ lZ K G T Z σ ρ W H
def DO (X : Cx) (G : Gx) (T : WX) (e : Option Expr) (w : WO) : Prop := PO X e (lO X.K G T w)
theorem po_weak {e : Option Expr} {t t' : TO} (h : PO X e t) (i : ∀ σ H Q, t' σ H Q → t σ H Q) : PO X e t' := ⟨fun p s σ H Q I q => h.run p s σ H Q I (i σ H Q q)⟩
def wNoP : WO := fun _ ρ R => R none ρ
def wPart (w : WE) : WO := fun Z ρ R => w Z ρ fun d ρ' => match d.frz with
  | .int i => R (some i) ρ'
  | _ => False
theorem do_none : DO X G T none wNoP := po_weak po_none fun σ H Q ⟨W, ρ, R, Z, ok, h, hR, _⟩ => hR _ _ _ _ h (.refl ok)
theorem do_some (h : DE X G T e w) : DO X G T (some e) (wPart w) := po_weak (po_some h) fun σ H Q ⟨W, ρ, R, Z, ok, h, hR, hZ⟩ => by
  refine lE_then (R := fun d ρ' => match d with | .int i => R (some i) ρ' | _ => False) ok h hZ fun d ρ1 W1 x H1 h1 g1 d1 => ?_
  cases d1 <;> first | exact False.elim h1 | skip
  exact ⟨_, rfl, hR _ _ _ _ h1 g1⟩
def cutD {α : Type} (xs : List α) (lo hi : Option Int) : List α := (xs.drop (HT.sIx xs.length 0 lo)).take (HT.sIx xs.length xs.length hi - HT.sIx xs.length 0 lo)
theorem DnA.cut {K : PySem.W.Frag} {W : Wd} {H : Hp} {ds : List D} {xs : List V} (h : DnA K W H ds xs) (lo hi : Option Int) : DnA K W H (cutD ds lo hi) (cutV xs lo hi) := by
  unfold cutD cutV
  rw [← h.length]
  exact (h.drop _).take _
def fSl (d : D) (lo hi : Option Int) (R : S → Prop) : Prop := match d with
  | .tup ds => R (.d (.tup (cutD ds lo hi)))
  | .lst ds => R (.own (cutD ds lo hi))
  | .rls ds => R (.own (cutD ds lo hi))
  | .str s => s.length ≤ sizeLine ∧ R (.d (.str (cutS s lo hi)))
  | _ => False
def wSl (w : WE) (wl wh : WO) : WE := fun Z ρ R => w Z ρ fun d ρ1 => wl Z ρ1 fun lo ρ2 => wh Z ρ2 fun hi ρ3 => fSl d.frz lo hi fun z => R z ρ3
def rSlX (K : PySem.W.Frag) : V → Option Int → Option Int → Hp → VK → Prop := fun x lo hi H Q => (rSlL K x lo hi H Q ∨ rSlA K x lo hi H Q) ∨ ∃ z, x = .str z ∧ z.length ≤ sizeLine ∧ Q (.str (cutS z lo hi)) H
theorem cut_whole {α : Type} {xs : List α} {lo hi : Option Int} (h : HT.sIx xs.length 0 lo = 0 ∧ HT.sIx xs.length xs.length hi = xs.length) : cutD xs lo hi = xs := by
  unfold cutD
  rw [h.1, h.2]
  simp
theorem lE_sl {K : PySem.W.Frag} {wl wh : WO} {σ : L2.St} {H : Hp} {Q : VK} (h : lE K G T (wSl w wl wh) σ H Q) : tSl (fun x lo hi H Q => (rSlL K x lo hi H Q ∨ rSlA K x lo hi H Q) ∨ rSlS x lo hi H Q) (lE K G T w) (lO K G T wl) (lO K G T wh) σ H Q := by
  obtain ⟨W, ρ, R, Z, ok, h, hR, hZ⟩ := h
  refine lE_then (R := fun d ρ1 => wl Z ρ1 fun lo ρ2 => wh Z ρ2 fun hi ρ3 => fSl d lo hi fun z => R z ρ3) ok h hZ fun d ρ1 W1 x H1 h1 g1 d1 => ?_
  refine ⟨W1, ρ1, _, Z, g1.ok, h1, fun lo ρ2 W2 H2 h2 g2 => ?_, hZ.go g1⟩
  refine ⟨W2, ρ2, _, Z, g2.ok, h2, fun hi ρ3 W3 H3 h3 g3 => ?_, (hZ.go g1).go g2⟩
  have g := (g1.trans g2).trans g3
  have d3 := (d1.le g2.stp.le).le g3.stp.le
  match d, x, d3, h3 with
  | .tup ds, _, .tup e da, h3 =>
    have lq := da.length
    refine .inl (.inr ⟨_, _, rfl, e.sq, fun hw => ?_, fun _ q hq => ?_⟩)
    · rw [← lq] at hw
      refine hR _ ρ3 W3 _ H3 h3 g (.of ?_)
      rw [cut_whole hw]
      exact .tup e da
    · exact hR _ ρ3 _ _ _ h3 (g.trans (.newF g.ok hq)) (.of (res_tup g.ok hq (da.cut lo hi)))
  | .lst ds, _, .lst f e da, h3 => exact .inl (.inl ⟨_, _, rfl, SqL.of e, fun q hq => hR _ ρ3 _ _ _ h3 (g.trans (.new g.ok hq)) (res_own g.ok hq (g.stp.up q hq) (da.cut lo hi))⟩)
  | .rls ds, _, .rls e da, h3 => exact .inl (.inl ⟨_, _, rfl, e.sq, fun q hq => hR _ ρ3 _ _ _ h3 (g.trans (.new g.ok hq)) (res_own g.ok hq (g.stp.up q hq) (da.cut lo hi))⟩)
  | .str z, _, .str _, h3 => exact .inr ⟨z, rfl, h3.1, hR _ ρ3 W3 _ H3 h3.2 g (.of (.str _))⟩
theorem de_sl {lo hi : Option Expr} {wl wh : WO} (he : DE X G T e w) (hl : DO X G T lo wl) (hu : DO X G T hi wh) : DE X G T (.Subscript e (.Slice lo hi none p2) pos) (wSl w wl wh) :=
  pe_weak (pe_slice ((sl_list.or sl_tupA).or sl_str) he hl hu) fun _ _ _ h => lE_sl h
/-- xs[::-1] of a list -/
def fRev (d : D) (R : S → Prop) : Prop := match d with
  | .lst ds => R (.own ds.reverse)
  | .rls ds => R (.own ds.reverse)
  | _ => False
theorem de_rev {k : Nat} {p1 p3 : Pos} (he : DE X G T e w) : DE X G T (.Subscript e (.Slice none none (some (.UnaryOp .USub (.Constant (.int 1) k p1) p2)) p3) pos) (wUn fRev w) :=
  pe_weak (pe_revL he) fun σ H Q h => lE_un (K := X.K) (r := fun x H1 Q => ∃ a xs, x = .ref a ∧ SqL X.K H1 a xs ∧ ∀ p, H1 p = none → Q (.ref p) (upd H1 p (.lst xs.reverse))) (fun G W ρ σ H d x R Q ok hd f k => by
    match d, x, hd, f with
    | .lst ds, _, .lst _ e da, f => exact ⟨_, _, rfl, SqL.of e, fun q hq => k _ _ _ _ f (.new ok hq) (res_own ok hq hq da.reverse)⟩
    | .rls ds, _, .rls e da, f => exact ⟨_, _, rfl, e.sq, fun q hq => k _ _ _ _ f (.new ok hq) (res_own ok hq hq da.reverse)⟩) h
/-! ### range(a, b, c) -/
def rangeDC (lo c : Int) (n : Nat) : List D := (List.range n).map fun i => .int (lo + (i : Nat) * c)
theorem itc_ok {K : PySem.W.Frag} {W : Wd} {H : Hp} {lo cc : Int} {n : Nat} : ItOk K W H (Itc lo cc n) (rangeDC lo cc n) := fun i W1 H1 l al => by
  unfold rangeDC
  refine ⟨fun h => (show n ≤ i by simpa using h), fun d hd => ?_⟩
  rw [List.getElem?_map] at hd
  by_cases q : i < n
  · rw [List.getElem?_range q] at hd
    cases hd
    refine ⟨q, fun y H2 ⟨e1, e2⟩ => ?_⟩
    subst e1 e2
    exact ⟨W1, .refl _ _ _, al, .int _⟩
  · rw [List.getElem?_eq_none (by simpa using q)] at hd
    cases hd
def rg3 (ds : List D) (N : List D → Prop) : Prop := match ds with
  | [.int i, .int j, .int c] => ∃ n, RgC i j c n ∧ N (rangeDC i c n)
  | _ => False
theorem di_range3 {tg : Expr} {ta : WA} (ha : DA X G T [a, b, c] ta) (hg : Gl X "range") (hm : X.mg "range" = none) (hs : starEach [a, b, c] X.env = (false, eval a X.env) :: starEach [b, c] X.env := by rfl) (hpl : (backTo pos (starEach [b, c] X.env)).any (·.1) = false := by rfl) : DI X G T tg (.Call (.Name "range" p) [a, b, c] [] pos) (wRng rg3 ta) :=
  pi_weak (pi_range3 hg hm ha hs hpl) fun σ H R ⟨W, ρ, N, Z, ok, h, hN, hZ⟩ => ⟨W, ρ, _, Z, ok, h, fun ds ρ1 W1 xs H1 h1 g d => by
    match ds, xs, d, h1 with
    | [.int i, .int j, .int l], _, .cons (.int _) (.cons (.int _) (.cons (.int _) .nil)), ⟨n, h1, h2⟩ => exact ⟨i, j, l, n, rfl, h1, hN _ _ _ _ _ h2 g itc_ok⟩, hZ⟩
/-! ### a, b, c = x, y, z -/
def wPar3 (i j l : Nat) (wa wb wc : WE) : WS := fun E ρ => wa E.ex ρ fun x ρ1 => wb E.ex ρ1 fun y ρ2 => wc E.ex ρ2 fun z ρ3 => E.nx (((ρ3.set i (some x)).set j (some y)).set l (some z))
/-- the own ones of a stored slot -/
theorem ow_set {ρ : Rho} {σ : L2.St} {i : Nat} {s : S} {x : V} {a : Addr} (hl : σ.length = ρ.length) (h : Ow (ρ.set i (some s)) (σ.set i (some x)) a) : (s.isOwn = true ∧ x = .ref a) ∨ Ow ρ σ a := by
  obtain ⟨j, d, h1, h2, h3⟩ := h
  rcases set_get h1 with ⟨z1, z2⟩ | ⟨z1, z2⟩
  · cases z2; subst z1
    have hi : i < (σ.set i (some x)).length := (List.getElem?_eq_some_iff.mp h3).1
    rw [List.length_set] at hi
    rw [List.getElem?_set_self hi] at h3
    cases h3
    exact .inl ⟨h2, rfl⟩
  · rw [List.getElem?_set_ne z1] at h3
    exact .inr ⟨j, d, z2, h2, h3⟩
theorem lS_par3 {K : PySem.W.Frag} {σ : L2.St} {H : Hp} {D : Ends} {i j l : Nat} (h : lS K G T (wPar3 i j l wa wb wc) D σ H) : lE K G T wa σ H fun x H1 => lE K G T wb σ H1 fun y H2 => lE K G T wc σ H2 fun z H3 => D.nx (((σ.set i (some x)).set j (some y)).set l (some z)) H3 := by
  obtain ⟨W, ρ, E, ok, h, hn, hr, hb, hc, hx⟩ := h
  refine ⟨W, ρ, _, E.ex, ok, h, fun d1 ρ1 W1 x H1 h1 g1 r1 => ?_, hx.z σ ρ⟩
  refine ⟨W1, ρ1, _, E.ex, g1.ok, h1, fun d2 ρ2 W2 y H2 h2 g2 r2 => ?_, (hx.z σ ρ).go g1⟩
  refine ⟨W2, ρ2, _, E.ex, g2.ok, h2, fun d3 ρ3 W3 z H3 h3 g3 r3 => ?_, ((hx.z σ ρ).go g1).go g2⟩
  have a1 := (r1.go ok g1 g2)
  have g12 := g1.trans g2
  have a1' := a1.go ok g12 g3
  have a2' := r2.go g1.ok g2 g3
  have g123 := g12.trans g3
  have f1 := g123.fr ok a1'
  have f2 := (g2.trans g3).fr g1.ok a2'
  have f3 := g3.fr g2.ok r3
  have ne12 : ∀ p, d1.isOwn = true → x = .ref p → d2.isOwn = true → y = .ref p → False := fun p o1 e1 o2 e2 => by
    obtain ⟨q, u, q1, q2⟩ := r1.rs.ow o1
    rw [e1] at q1; cases q1
    rw [(r2.fr o2 p e2).2.2] at q2; cases q2
  have ne13 : ∀ p, d1.isOwn = true → x = .ref p → d3.isOwn = true → z = .ref p → False := fun p o1 e1 o2 e2 => by
    obtain ⟨q, u, q1, q2⟩ := a1.rs.ow o1
    rw [e1] at q1; cases q1
    rw [(r3.fr o2 p e2).2.2] at q2; cases q2
  have ne23 : ∀ p, d2.isOwn = true → y = .ref p → d3.isOwn = true → z = .ref p → False := fun p o1 e1 o2 e2 => by
    obtain ⟨q, u, q1, q2⟩ := r2.rs.ow o1
    rw [e1] at q1; cases q1
    rw [(r3.fr o2 p e2).2.2] at q2; cases q2
  have k1 := g123.ok.set (i := i) a1'.rs f1
  have k2 := k1.set (i := j) a2'.rs fun o p e => ⟨(f2 o p e).1, (f2 o p e).2.1, (f2 o p e).2.2.1, fun q => (ow_set g123.ok.len q).elim (fun q => ne12 p q.1 q.2 o e) (f2 o p e).2.2.2⟩
  have k3 := k2.set (i := l) r3.rs fun o p e => ⟨(f3 o p e).1, (f3 o p e).2.1, (f3 o p e).2.2.1, fun q => (ow_set k1.len q).elim (fun q => ne23 p q.1 q.2 o e) fun q => (ow_set g123.ok.len q).elim (fun q => ne13 p q.1 q.2 o e) (f3 o p e).2.2.2⟩
  exact hn _ W3 _ H3 h3 k3 g123.stp.le
theorem ds_par3 {i j l : Nat} {x y z : Str} {px py pz pt : Pos} {kt k2 pt2} (hN : X.N.Nodup) (ha : DE X G T a wa) (hb : DE X G T b wb) (hcc : DE X G T c wc) (hc : X.calm = true := by rfl) (hi : X.N[i]? = some x := by rfl) (hj : X.N[j]? = some y := by rfl) (hl : X.N[l]? = some z := by rfl) (hij : i ≠ j := by decide) (hil : i ≠ l := by decide) (hjl : j ≠ l := by decide)
    (hx : X.env.scope.names.lookup x = some .local := by rfl) (hy : X.env.scope.names.lookup y = some .local := by rfl) (hz : X.env.scope.names.lookup z = some .local := by rfl)
    (hw : swappedStores [.Tuple [.Name x px, .Name y py, .Name z pz] kt pt] (.Tuple [a, b, c] k2 pt2) X.env = pure (some [x, y, z]) := by rfl)
    (hs : swapsWithSole [.Tuple [.Name x px, .Name y py, .Name z pz] kt pt] (.Tuple [a, b, c] k2 pt2) pos.line X.env = pure false := by rfl)
    (hsa : starEach (a :: [b, c]) X.env = (false, eval a X.env) :: starEach [b, c] X.env := by rfl) (hsb : starEach (b :: [c]) X.env = (false, eval b X.env) :: starEach [c] X.env := by rfl) (hsc : starEach [c] X.env = (false, eval c X.env) :: starEach [] X.env := by rfl) :
    DS X G T (.Assign [.Tuple [.Name x px, .Name y py, .Name z pz] kt pt] (.Tuple [a, b, c] k2 pt2) pos) (wPar3 i j l wa wb wc) :=
  ps_weak (L2.ps_par3 (ta := tCons (lE X.K G T wa) (tCons (lE X.K G T wb) (tCons (lE X.K G T wc) tNil))) hc hN hi hj hl hij hil hjl hx hy hz (pa_cons ha (pa_cons hb (pa_cons hcc pa_nil hsc) hsb) hsa) hw hs) fun D σ H h => by
    obtain ⟨W, ρ, R, Z, ok, h, h1, hZ⟩ := lS_par3 h
    refine ⟨W, ρ, R, Z, ok, h, fun d ρ1 W1 x H1 hr g r => ?_, hZ⟩
    obtain ⟨W', ρ', R', Z', ok', h', h1', hZ'⟩ := h1 d ρ1 W1 x H1 hr g r
    refine ⟨W', ρ', R', Z', ok', h', fun d ρ1 W1 y H1 hr g r => ?_, hZ'⟩
    obtain ⟨W3, ρ3, R3, Z3, ok3, h3, h13, hZ3⟩ := h1' d ρ1 W1 y H1 hr g r
    exact ⟨W3, ρ3, R3, Z3, ok3, h3, fun d ρ1 W1 z H1 hr g r => ⟨x, y, z, rfl, h13 d ρ1 W1 z H1 hr g r⟩, hZ3⟩
/-! ### a, b = x, y by a tuple that is taken apart at once -/
theorem lS_parT {K : PySem.W.Frag} {σ : L2.St} {H : Hp} {D : Ends} {i j : Nat} (h : lS K G T (wPar i j wa wb) D σ H) : lE K G T wa σ H fun x H1 => lE K G T wb σ H1 fun y H2 => ∀ p, H2 p = none → D.nx ((σ.set i (some x)).set j (some y)) (upd H2 p (.tup [x, y])) := by
  obtain ⟨W, ρ, E, ok, h, hn, hr, hb, hc, hx⟩ := h
  refine ⟨W, ρ, _, E.ex, ok, h, fun d1 ρ1 W1 x H1 h1 g1 r1 => ?_, hx.z σ ρ⟩
  refine ⟨W1, ρ1, _, E.ex, g1.ok, h1, fun d2 ρ2 W2 y H2 h2 g2 r2 p hp => ?_, (hx.z σ ρ).go g1⟩
  have g3 := Go.new (o := .tup [x, y]) g2.ok hp
  have a1 := r1.go ok g1 (g2.trans g3)
  have a2 := r2.go g1.ok g2 g3
  have g123 := (g1.trans g2).trans g3
  have f1 := g123.fr ok a1
  have f2 := (g2.trans g3).fr g1.ok a2
  have k1 := g123.ok.set (i := i) a1.rs f1
  have k2 := k1.set (i := j) a2.rs fun o q e => ⟨(f2 o q e).1, (f2 o q e).2.1, (f2 o q e).2.2.1, fun z => (ow_set g123.ok.len z).elim (fun z => by
    obtain ⟨q', u, q1, q2⟩ := r1.rs.ow z.1
    rw [z.2] at q1; cases q1
    rw [(r2.fr o q e).2.2] at q2; cases q2) (f2 o q e).2.2.2⟩
  exact hn _ W2 _ _ h2 k2 g123.stp.le
theorem ds_parT {i j : Nat} {x y : Str} {px py pt : Pos} {kt k2 pt2} (hN : X.N.Nodup) (ha : DE X G T a wa) (hb : DE X G T b wb) (hg : PGs X [.Name x px, .Name y py] (gNames [i, j])) (hc : X.calm = true := by rfl)
    (hs : swapsWithSole [.Tuple [.Name x px, .Name y py] kt pt] (.Tuple [a, b] k2 pt2) pos.line X.env = pure false := by rfl) (hw : swappedStores [.Tuple [.Name x px, .Name y py] kt pt] (.Tuple [a, b] k2 pt2) X.env = pure none := by rfl)
    (hh : (assignEach [.Tuple [.Name x px, .Name y py] kt pt] X.env).map (·.2) = [assign (.Tuple [.Name x px, .Name y py] kt pt) X.env] := by rfl) (hn : (assignEach [.Name x px, .Name y py] X.env).length = 2 := by rfl) (hst : (assignEach [.Name x px, .Name y py] X.env).findIdx? (·.1) = none := by rfl)
    (hsa : starEach (a :: [b]) X.env = (false, eval a X.env) :: starEach [b] X.env := by rfl) (hsb : starEach [b] X.env = (false, eval b X.env) :: starEach [] X.env := by rfl) :
    DS X G T (.Assign [.Tuple [.Name x px, .Name y py] kt pt] (.Tuple [a, b] k2 pt2) pos) (wPar i j wa wb) :=
  ps_weak (ps_asg (pe_tup (t := tCons (lE X.K G T wa) (tCons (lE X.K G T wb) tNil)) (pa_cons ha (pa_cons hb pa_nil hsb) hsa)) (pg_tup hc hg hn hst) hs hw hh) fun D σ H h => by
    obtain ⟨W, ρ, R, Z, ok, h, h1, hZ⟩ := lS_parT h
    refine ⟨W, ρ, R, Z, ok, h, fun d ρ1 W1 x H1 hr g r => ?_, hZ⟩
    obtain ⟨W', ρ', R', Z', ok', h', h1', hZ'⟩ := h1 d ρ1 W1 x H1 hr g r
    exact ⟨W', ρ', R', Z', ok', h', fun d ρ1 W1 y H1 hr g r => ⟨by show 2 ≤ sizeLine; decide, fun p hp => ⟨p, [x, y], rfl, SqT.of upd_same, rfl, x, [y], rfl, y, [], rfl, rfl, h1' d ρ1 W1 y H1 hr g r p hp⟩⟩, hZ'⟩
theorem lS_parT3 {K : PySem.W.Frag} {σ : L2.St} {H : Hp} {D : Ends} {i j l : Nat} (h : lS K G T (wPar3 i j l wa wb wc) D σ H) : lE K G T wa σ H fun x H1 => lE K G T wb σ H1 fun y H2 => lE K G T wc σ H2 fun z H3 => ∀ p, H3 p = none → D.nx (((σ.set i (some x)).set j (some y)).set l (some z)) (upd H3 p (.tup [x, y, z])) := by
  obtain ⟨W, ρ, E, ok, h, hn, hr, hb, hc, hx⟩ := h
  refine ⟨W, ρ, _, E.ex, ok, h, fun d1 ρ1 W1 x H1 h1 g1 r1 => ?_, hx.z σ ρ⟩
  refine ⟨W1, ρ1, _, E.ex, g1.ok, h1, fun d2 ρ2 W2 y H2 h2 g2 r2 => ?_, (hx.z σ ρ).go g1⟩
  refine ⟨W2, ρ2, _, E.ex, g2.ok, h2, fun d3 ρ3 W3 z H3 h3 g3 r3 p hp => ?_, ((hx.z σ ρ).go g1).go g2⟩
  have a1 := (r1.go ok g1 g2)
  have g12 := g1.trans g2
  have g4 := Go.new (o := .tup [x, y, z]) g3.ok hp
  have a1' := a1.go ok g12 (g3.trans g4)
  have a2' := r2.go g1.ok g2 (g3.trans g4)
  have a3' := r3.go g2.ok g3 g4
  have g123 := (g12.trans g3).trans g4
  have f1 := g123.fr ok a1'
  have f2 := (g2.trans (g3.trans g4)).fr g1.ok a2'
  have f3 := (g3.trans g4).fr g2.ok a3'
  have ne12 : ∀ p, d1.isOwn = true → x = .ref p → d2.isOwn = true → y = .ref p → False := fun p o1 e1 o2 e2 => by
    obtain ⟨q, u, q1, q2⟩ := r1.rs.ow o1
    rw [e1] at q1; cases q1
    rw [(r2.fr o2 p e2).2.2] at q2; cases q2
  have ne13 : ∀ p, d1.isOwn = true → x = .ref p → d3.isOwn = true → z = .ref p → False := fun p o1 e1 o2 e2 => by
    obtain ⟨q, u, q1, q2⟩ := a1.rs.ow o1
    rw [e1] at q1; cases q1
    rw [(r3.fr o2 p e2).2.2] at q2; cases q2
  have ne23 : ∀ p, d2.isOwn = true → y = .ref p → d3.isOwn = true → z = .ref p → False := fun p o1 e1 o2 e2 => by
    obtain ⟨q, u, q1, q2⟩ := r2.rs.ow o1
    rw [e1] at q1; cases q1
    rw [(r3.fr o2 p e2).2.2] at q2; cases q2
  have k1 := g123.ok.set (i := i) a1'.rs f1
  have k2 := k1.set (i := j) a2'.rs fun o p e => ⟨(f2 o p e).1, (f2 o p e).2.1, (f2 o p e).2.2.1, fun q => (ow_set g123.ok.len q).elim (fun q => ne12 p q.1 q.2 o e) (f2 o p e).2.2.2⟩
  have k3 := k2.set (i := l) a3'.rs fun o p e => ⟨(f3 o p e).1, (f3 o p e).2.1, (f3 o p e).2.2.1, fun q => (ow_set k1.len q).elim (fun q => ne23 p q.1 q.2 o e) fun q => (ow_set g123.ok.len q).elim (fun q => ne13 p q.1 q.2 o e) (f3 o p e).2.2.2⟩
  exact hn _ W3 _ _ h3 k3 g123.stp.le
theorem ds_parT3 {i j l : Nat} {x y z : Str} {px py pz pt : Pos} {kt k2 pt2} (hN : X.N.Nodup) (ha : DE X G T a wa) (hb : DE X G T b wb) (hcc : DE X G T c wc) (hg : PGs X [.Name x px, .Name y py, .Name z pz] (gNames [i, j, l])) (hc : X.calm = true := by rfl)
    (hs : swapsWithSole [.Tuple [.Name x px, .Name y py, .Name z pz] kt pt] (.Tuple [a, b, c] k2 pt2) pos.line X.env = pure false := by rfl) (hw : swappedStores [.Tuple [.Name x px, .Name y py, .Name z pz] kt pt] (.Tuple [a, b, c] k2 pt2) X.env = pure none := by rfl)
    (hh : (assignEach [.Tuple [.Name x px, .Name y py, .Name z pz] kt pt] X.env).map (·.2) = [assign (.Tuple [.Name x px, .Name y py, .Name z pz] kt pt) X.env] := by rfl) (hn : (assignEach [.Name x px, .Name y py, .Name z pz] X.env).length = 3 := by rfl) (hst : (assignEach [.Name x px, .Name y py, .Name z pz] X.env).findIdx? (·.1) = none := by rfl)
    (hsa : starEach (a :: [b, c]) X.env = (false, eval a X.env) :: starEach [b, c] X.env := by rfl) (hsb : starEach (b :: [c]) X.env = (false, eval b X.env) :: starEach [c] X.env := by rfl) (hsc : starEach [c] X.env = (false, eval c X.env) :: starEach [] X.env := by rfl) :
    DS X G T (.Assign [.Tuple [.Name x px, .Name y py, .Name z pz] kt pt] (.Tuple [a, b, c] k2 pt2) pos) (wPar3 i j l wa wb wc) :=
  ps_weak (ps_asg (pe_tup (t := tCons (lE X.K G T wa) (tCons (lE X.K G T wb) (tCons (lE X.K G T wc) tNil))) (pa_cons ha (pa_cons hb (pa_cons hcc pa_nil hsc) hsb) hsa)) (pg_tup hc hg hn hst) hs hw hh) fun D σ H h => by
    obtain ⟨W, ρ, R, Z, ok, h, h1, hZ⟩ := lS_parT3 h
    refine ⟨W, ρ, R, Z, ok, h, fun d ρ1 W1 x H1 hr g r => ?_, hZ⟩
    obtain ⟨W', ρ', R', Z', ok', h', h1', hZ'⟩ := h1 d ρ1 W1 x H1 hr g r
    refine ⟨W', ρ', R', Z', ok', h', fun d ρ1 W1 y H1 hr g r => ?_, hZ'⟩
    obtain ⟨W3, ρ3, R3, Z3, ok3, h3, h13, hZ3⟩ := h1' d ρ1 W1 y H1 hr g r
    exact ⟨W3, ρ3, R3, Z3, ok3, h3, fun d ρ1 W1 z H1 hr g r => ⟨by show 3 ≤ sizeLine; decide, fun p hp => ⟨p, [x, y, z], rfl, SqT.of upd_same, rfl, x, [y, z], rfl, y, [z], rfl, z, [], rfl, rfl, h13 d ρ1 W1 z H1 hr g r p hp⟩⟩, hZ3⟩
end
end DL

/-! DL7: how readings over data are shown. -/
namespace DL
open PySem PySem.Spec L2
variable {E : DEnds} {ρ : Rho} {Z : ZK} {R : S → Rho → Prop} {u v : WS} {w wa wb wc : WE} {t t' : WT} {i j : Nat}
section
@[simp] theorem x_seq : wSeq u v E ρ = u { E with nx := v E } ρ := rfl
@[simp] theorem x_next : wNext E ρ = E.nx ρ := rfl
@[simp] theorem x_brk : wBrk E ρ = E.bk ρ := rfl
@[simp] theorem x_cnt : wCnt E ρ = E.ct ρ := rfl
@[simp] theorem x_drop : wDrop w E ρ = w E.ex ρ fun _ ρ' => E.nx ρ' := rfl
@[simp] theorem x_ret : wRet w E ρ = w E.ex ρ fun d _ => E.rt d := rfl
@[simp] theorem x_retN : wRetN E ρ = E.rt (.d .non) := rfl
@[simp] theorem x_if : wIf t u v E ρ = t E.ex ρ fun c ρ1 => if c = true then u E ρ1 else v E ρ1 := rfl
@[simp] theorem x_set : wSet i w E ρ = w E.ex ρ fun d ρ' => E.nx (ρ'.set i (some d)) := rfl
@[simp] theorem x_par : wPar i j wa wb E ρ = wa E.ex ρ fun x ρ1 => wb E.ex ρ1 fun y ρ2 => E.nx ((ρ2.set i (some x)).set j (some y)) := rfl
@[simp] theorem x_asgN {f : TgF} : wAsgN f w E ρ = w E.ex ρ fun d ρ' => f d.frz fun l => E.nx (storesR ρ' l) := rfl
@[simp] theorem x_for {wi : WI} {f : TgF} : wFor wi f u E ρ = wi E.ex ρ fun ds ρ1 => wForL f u E ds ρ1 := rfl
@[simp] theorem x_var : wVar i Z ρ R = (match ρ[i]? with | some (some d) => R (.d d.frz) (if d.isOwn = true then ρ.set i (some (.d d.frz)) else ρ) | _ => False) := rfl
@[simp] theorem x_c {d : D} : wC d Z ρ R = R (.d d) ρ := rfl
@[simp] theorem x_bin {f : D → D → (S → Prop) → Prop} : wBin f wa wb Z ρ R = wa Z ρ fun x ρ1 => wb Z ρ1 fun y ρ2 => f x.frz y.frz fun z => R z ρ2 := rfl
@[simp] theorem x_un {f : D → (S → Prop) → Prop} : wUn f wa Z ρ R = wa Z ρ fun x ρ1 => f x.frz fun z => R z ρ1 := rfl
@[simp] theorem x_b {R : Bool → Rho → Prop} : wB w Z ρ R = w Z ρ fun d ρ' => d.isB fun b => R b ρ' := rfl
@[simp] theorem x_and {R : Bool → Rho → Prop} : wAnd t t' Z ρ R = t Z ρ fun c ρ1 => if c = true then t' Z ρ1 R else R false ρ1 := rfl
@[simp] theorem x_or {R : Bool → Rho → Prop} : wOr t t' Z ρ R = t Z ρ fun c ρ1 => if c = true then R true ρ1 else t' Z ρ1 R := rfl
@[simp] theorem x_not {R : Bool → Rho → Prop} : wNot t Z ρ R = t Z ρ fun c ρ1 => R (!c) ρ1 := rfl
@[simp] theorem x_andV : wAndV wa wb Z ρ R = wa Z ρ fun x ρ1 => x.isB fun c => if c = true then wb Z ρ1 R else R (.d (.bl false)) ρ1 := rfl
@[simp] theorem x_orV : wOrV wa wb Z ρ R = wa Z ρ fun x ρ1 => x.isB fun c => if c = true then R (.d (.bl true)) ρ1 else wb Z ρ1 R := rfl
@[simp] theorem x_notV : wNotV wa Z ρ R = wa Z ρ fun x ρ1 => x.isB fun c => R (.d (.bl (!c))) ρ1 := rfl
@[simp] theorem x_ifE : wIfE t wa wb Z ρ R = t Z ρ fun c ρ1 => if c = true then wa Z ρ1 R else wb Z ρ1 R := rfl
@[simp] theorem x_nil {R : List D → Rho → Prop} : wNil Z ρ R = R [] ρ := rfl
@[simp] theorem x_cons {u : WA} {R : List D → Rho → Prop} : wCons w u Z ρ R = w Z ρ fun x ρ1 => u Z ρ1 fun xs ρ2 => R (x.frz :: xs) ρ2 := rfl
@[simp] theorem x_tup {u : WA} : wTup u Z ρ R = u Z ρ fun ds ρ1 => ds.length ≤ sizeLine ∧ R (.d (.tup ds)) ρ1 := rfl
@[simp] theorem x_lst {u : WA} : wLst u Z ρ R = u Z ρ fun ds ρ1 => ds.length ≤ sizeLine ∧ R (.own ds) ρ1 := rfl
@[simp] theorem x_callB {f : List D → (S → Prop) → Prop} {u : WA} : wCallB f u Z ρ R = u Z ρ fun ds ρ1 => f ds fun z => R z ρ1 := rfl
@[simp] theorem x_call {n : Nat} {wf : WF} {u : WA} : wCall n wf u Z ρ R = u Z ρ fun ds ρ1 => ds.length = n ∧ wf (fun x => Z x ρ1) ds fun s => R s ρ1 := rfl
@[simp] theorem x_callK {n n1 n2 : Nat} {is : List Nat} {wf : WF} {u uk : WA} : wCallK n n1 n2 is wf u uk Z ρ R = u Z ρ fun ds ρ1 => ds.length = n1 ∧ uk Z ρ1 fun es ρ2 => es.length = n2 ∧ (permL .non is (ds ++ es)).length = n ∧ (∀ i ∈ is, i < (ds ++ es).length) ∧ wf (fun x => Z x ρ2) (permL .non is (ds ++ es)) fun s => R s ρ2 := rfl
@[simp] theorem x_ixV : wIxV i w Z ρ R = ((∃ s0, ρ[i]? = some (some s0)) ∧ w Z ρ fun k ρ1 => match ρ1[i]? with | some (some s) => fIx s.frz k.frz fun z => R z ρ1 | _ => False) := rfl
@[simp] theorem x_lenV : wLenV i Z ρ R = (match ρ[i]? with | some (some s) => fLen [s.frz] fun z => R z ρ | _ => False) := rfl
@[simp] theorem x_opV {f : D → D → (S → Prop) → Prop} : wOpV i f wb Z ρ R = ((∃ s0, ρ[i]? = some (some s0)) ∧ wb Z ρ fun y ρ1 => match ρ1[i]? with | some (some s) => f s.frz y.frz fun z => R z ρ1 | _ => False) := rfl
@[simp] theorem x_opW {f : D → D → (S → Prop) → Prop} : wOpW wa i f Z ρ R = (wa Z ρ fun x ρ1 => match ρ1[i]? with | some (some s) => f x.frz s.frz fun z => R z ρ1 | _ => False) := rfl
@[simp] theorem x_app : wApp i w E ρ = ((∃ d0, ρ[i]? = some (some (.own d0))) ∧ w E.ex ρ fun d ρ1 => match ρ1[i]? with | some (some (.own ds)) => ds.length < sizeLine ∧ E.nx (ρ1.set i (some (.own (ds ++ [d.frz])))) | _ => False) := rfl
@[simp] theorem x_setIx {wk : WE} : wSetIx i wk w E ρ = (w E.ex ρ fun d ρ1 => (∃ s0, ρ1[i]? = some (some s0)) ∧ wk E.ex ρ1 fun k ρ2 => match ρ2[i]? with | some (some s) => sIx s k.frz d.frz fun s' => E.nx (if s.isOwn = true then ρ2.set i (some s') else ρ2) | _ => False) := rfl
@[simp] theorem x_items {N : List D → Rho → Prop} : wItems w Z ρ N = w Z ρ fun d ρ' => ∃ ds, d.frz.items = some ds ∧ N ds ρ' := rfl
@[simp] theorem x_rng {f : List D → (List D → Prop) → Prop} {u : WA} {N : List D → Rho → Prop} : wRng f u Z ρ N = u Z ρ fun ds ρ' => f ds fun l => N l ρ' := rfl
@[simp] theorem x_yes {R : Bool → Rho → Prop} : wYes Z ρ R = R true ρ := rfl
@[simp] theorem x_lc {wi : WI} {f : TgF} {vs : List Nat} : wLc wi f t w vs Z ρ R = wi Z ρ fun ds ρ1 => NoOwn ρ1 vs ∧ wLcL f t w (wipeR ρ1 vs) (fun acc => R (.own acc) ρ1) ds [] := rfl
@[simp] theorem x_sl {wl wh : WO} : wSl w wl wh Z ρ R = w Z ρ fun d ρ1 => wl Z ρ1 fun lo ρ2 => wh Z ρ2 fun hi ρ3 => fSl d.frz lo hi fun z => R z ρ3 := rfl
@[simp] theorem x_nop {R : Option Int → Rho → Prop} : wNoP Z ρ R = R none ρ := rfl
@[simp] theorem x_part {R : Option Int → Rho → Prop} : wPart w Z ρ R = w Z ρ fun d ρ' => match d.frz with | .int i => R (some i) ρ' | _ => False := rfl
@[simp] theorem x_chain {f f' : D → D → (S → Prop) → Prop} : wChain f f' wa wb wc Z ρ R = wa Z ρ fun x ρ1 => wb Z ρ1 fun y ρ2 => f x.frz y.frz fun z => z.isB fun k => if k = true then wc Z ρ2 fun u ρ3 => f' y.frz u.frz fun z => R z ρ3 else R (.d (.bl false)) ρ2 := rfl
@[simp] theorem s_frz_d {d : D} : (S.d d).frz = d := rfl
@[simp] theorem s_frz_own {ds : List D} : (S.own ds).frz = .lst ds := rfl
@[simp] theorem s_own_d {d : D} : (S.d d).isOwn = false := rfl
@[simp] theorem s_own_own {ds : List D} : (S.own ds).isOwn = true := rfl
@[simp] theorem s_isB {b : Bool} {R : Bool → Prop} : (S.d (.bl b)).isB R = R b := rfl
@[simp] theorem s_i2 {g : Int → Int → D} {a b : Int} {R : S → Prop} : fI2 g (.int a) (.int b) R = R (.d (g a b)) := rfl
@[simp] theorem s_sub {a b : Int} {R : S → Prop} : fSub (.int a) (.int b) R = R (.d (.int (a - b))) := rfl
@[simp] theorem s_addI {a b : Int} {R : S → Prop} : fAdd (.int a) (.int b) R = R (.d (.int (a + b))) := rfl
@[simp] theorem s_addT {a b : List D} {R : S → Prop} : fAdd (.tup a) (.tup b) R = (a.length + b.length ≤ sizeLine ∧ R (.d (.tup (a ++ b)))) := rfl
@[simp] theorem s_addL {a b : List D} {R : S → Prop} : fAdd (.lst a) (.lst b) R = (a.length + b.length ≤ sizeLine ∧ R (.own (a ++ b))) := rfl
@[simp] theorem s_mulI {a b : Int} {R : S → Prop} : fMul (.int a) (.int b) R = (MulOk a b ∧ R (.d (.int (a * b)))) := rfl
@[simp] theorem s_divI {a b : Int} {R : S → Prop} : fDiv (.int a) (.int b) R = (DivOk a b ∧ R (.d (.int (a.fdiv b)))) := rfl
@[simp] theorem s_modI {a b : Int} {R : S → Prop} : fMod (.int a) (.int b) R = (b ≠ 0 ∧ R (.d (.int (a.fmod b)))) := rfl
@[simp] theorem s_powI {a b : Int} {R : S → Prop} : fPow (.int a) (.int b) R = (CPow a b ∧ R (.d (.int (a ^ b.toNat)))) := rfl
@[simp] theorem s_neg {a : Int} {R : S → Prop} : fNeg (.int a) R = R (.d (.int (-a))) := rfl
@[simp] theorem s_eqI {a b : Int} {R : S → Prop} : fEq (.int a) (.int b) R = R (.d (.bl (a == b))) := by
  unfold fEq; simp [D.cmpOk, D.okSc, D.scl, D.eqb, D.py, PyData.eqv]
@[simp] theorem s_neI {a b : Int} {R : S → Prop} : fNe (.int a) (.int b) R = R (.d (.bl (!(a == b)))) := by
  unfold fNe; simp [D.cmpOk, D.okSc, D.scl, D.eqb, D.py, PyData.eqv]
@[simp] theorem s_int1 {a : Int} {R : S → Prop} : fInt [.int a] R = R (.d (.int a)) := rfl
@[simp] theorem s_abs {a : Int} {R : S → Prop} : fAbs [.int a] R = R (.d (.int (if a < 0 then -a else a))) := rfl
@[simp] theorem s_max2 {a b : Int} {R : S → Prop} : fMax2 [.int a, .int b] R = R (.d (.int (if b > a then b else a))) := rfl
@[simp] theorem s_min2 {a b : Int} {R : S → Prop} : fMin2 [.int a, .int b] R = R (.d (.int (if b < a then b else a))) := rfl
@[simp] theorem s_lenT {ds : List D} {R : S → Prop} : fLen [.tup ds] R = R (.d (.int ds.length)) := by simp [fLen, D.items]
@[simp] theorem s_lenL {ds : List D} {R : S → Prop} : fLen [.lst ds] R = R (.d (.int ds.length)) := by simp [fLen, D.items]
@[simp] theorem s_lenR {ds : List D} {R : S → Prop} : fLen [.rls ds] R = R (.d (.int ds.length)) := by simp [fLen, D.items]
@[simp] theorem s_tupL {ds : List D} {R : S → Prop} : fTuple [.lst ds] R = R (.d (.tup ds)) := by simp [fTuple, D.items]
@[simp] theorem s_tupT {ds : List D} {R : S → Prop} : fTuple [.tup ds] R = R (.d (.tup ds)) := by simp [fTuple, D.items]
@[simp] theorem s_lstT {ds : List D} {R : S → Prop} : fList [.tup ds] R = R (.own ds) := by simp [fList, D.items]
@[simp] theorem s_lstL {ds : List D} {R : S → Prop} : fList [.lst ds] R = R (.own ds) := by simp [fList, D.items]
@[simp] theorem i_t {ds : List D} : (D.tup ds).items = some ds := rfl
@[simp] theorem i_l {ds : List D} : (D.lst ds).items = some ds := rfl
@[simp] theorem i_r {ds : List D} : (D.rls ds).items = some ds := rfl
@[simp] theorem f_name {i : Nat} {d : D} {N : List (Nat × D) → Prop} : fName i d N = N [(i, d)] := rfl
@[simp] theorem f_tup {is : List Nat} {ds : List D} {N : List (Nat × D) → Prop} : fTupN is (.tup ds) N = (ds.length = is.length ∧ N (is.zip ds)) := rfl
@[simp] theorem st_nil {ρ : Rho} : storesR ρ [] = ρ := rfl
@[simp] theorem st_cons {ρ : Rho} {p : Nat × D} {l : List (Nat × D)} : storesR ρ (p :: l) = storesR (ρ.set p.1 (some (.d p.2))) l := rfl
@[simp] theorem wi_nil {ρ : Rho} : wipeR ρ [] = ρ := rfl
@[simp] theorem wi_cons {ρ : Rho} {i : Nat} {is : List Nat} : wipeR ρ (i :: is) = (wipeR ρ is).set i none := rfl
@[simp] theorem isN_non {R : Bool → Prop} : D.isNon .non R = R true := rfl
@[simp] theorem isN_tup {ds : List D} {R : Bool → Prop} : D.isNon (.tup ds) R = R false := rfl
@[simp] theorem isN_int {i : Int} {R : Bool → Prop} : D.isNon (.int i) R = R false := rfl
@[simp] theorem isN_lst {ds : List D} {R : Bool → Prop} : D.isNon (.lst ds) R = R false := rfl
@[simp] theorem isN_str {s : Str} {R : Bool → Prop} : D.isNon (.str s) R = R false := rfl
end
/-- what is never come to -/
def wNever : WS := fun _ _ => False
theorem ds_never {X : Cx} {G : Gx} {T : WX} {st : Stmt} : DS X G T st wNever := ps_weak ps_never fun D σ H ⟨W, ρ, E, ok, h, _⟩ => h.elim
@[simp] theorem x_never : wNever E ρ = False := rfl
/-- x is None, x is not None -/
def fIs (d : D) (R : S → Prop) : Prop := d.isNon fun b => R (.d (.bl b))
def fIsn (d : D) (R : S → Prop) : Prop := d.isNon fun b => R (.d (.bl (!b)))
@[simp] theorem x_is {d : D} {R : S → Prop} : fIs d R = d.isNon fun b => R (.d (.bl b)) := rfl
@[simp] theorem x_isn {d : D} {R : S → Prop} : fIsn d R = d.isNon fun b => R (.d (.bl (!b))) := rfl
/-! ### loops -/
theorem for_inv {f : TgF} {b : WS} (I : List D → Rho → Prop) : ∀ {ds : List D} {ρ : Rho}, I ds ρ → (∀ d ds' ρ (N : Rho → Prop), I (d :: ds') ρ → (∀ ρ', I ds' ρ' → N ρ') → f d fun l => b { E with nx := N, ct := N, bk := E.nx } (storesR ρ l)) →
    (∀ ρ, I [] ρ → E.nx ρ) → wForL f b E ds ρ
  | [], ρ, h, _, hd => hd ρ h
  | d :: ds, ρ, h, hs, hd => hs d ds ρ _ h fun ρ' h' => for_inv I h' hs hd
theorem while_inv {b : WS} (I : Rho → Prop) (μ : Rho → Nat) (h : I ρ) (hs : ∀ ρ (N : Rho → Prop), I ρ → (∀ ρ', I ρ' → μ ρ' < μ ρ → N ρ') → t E.ex ρ fun c ρ1 => if c = true then b { E with nx := N, ct := N, bk := E.nx } ρ1 else E.nx ρ1) : wWhile t b E ρ := by
  have key : ∀ (n : Nat) (ρ : Rho), I ρ → μ ρ < n → wWhileN t b E n ρ := fun n => by
    induction n with
    | zero => intro ρ _ h; exact absurd h (Nat.not_lt_zero _)
    | succ n ih => intro ρ hI hl; exact hs ρ _ hI fun ρ' h' l' => ih ρ' h' (by omega)
  exact ⟨μ ρ + 1, key _ ρ h (Nat.lt_succ_self _)⟩
/-- one turn of a comprehension -/
def lcStep (f : TgF) (t : WT) (e : WE) (ρ : Rho) (d : D) (acc : List D) (K : List D → Prop) : Prop :=
  f d fun l => t noZ (storesR ρ l) fun b ρ3 => ρ3 = storesR ρ l ∧ if b = true then e noZ (storesR ρ l) fun y ρ4 => ρ4 = storesR ρ l ∧ acc.length < sizeLine ∧ K (acc ++ [y.frz]) else K acc
theorem lc_rel {f : TgF} {e : WE} {R : List D → Prop} (P : D → List D → Prop) : ∀ {ds acc : List D}, (∀ d ∈ ds, ∀ (acc : List D) (K : List D → Prop), acc.length < sizeLine → (∀ ys, P d ys → ys.length ≤ 1 → K (acc ++ ys)) → lcStep f t e ρ d acc K) → acc.length + ds.length ≤ sizeLine →
    (∀ yss : List (List D), Paired P ds yss → R (acc ++ yss.flatten)) → wLcL f t e ρ R ds acc
  | [], acc, _, _, hR => by
    have := hR [] .nil
    rw [List.flatten_nil, List.append_nil] at this
    exact this
  | d :: ds, acc, hs, hl, hR => hs d (List.mem_cons_self ..) acc _ (by simp at hl; omega) fun ys hy l1 => lc_rel P (fun d' h' => hs d' (List.mem_cons_of_mem _ h')) (by simp at hl ⊢; omega) fun yss h' => by
      have := hR (ys :: yss) (.cons hy h')
      simpa [List.append_assoc] using this
theorem lc_map {f : TgF} {e : WE} {R : List D → Prop} (g : D → D) {ds : List D} (hs : ∀ d ∈ ds, ∀ (acc : List D) (K : List D → Prop), acc.length < sizeLine → K (acc ++ [g d]) → lcStep f t e ρ d acc K) (hl : ds.length ≤ sizeLine) (hR : R (ds.map g)) : wLcL f t e ρ R ds [] := by
  refine lc_rel (fun d ys => ys = [g d]) (fun d hd acc K ha k => hs d hd acc K ha (k _ rfl (by simp))) (by simpa using hl) fun yss h => ?_
  have : yss.flatten = ds.map g := by
    clear hs hl hR
    induction h with
    | nil => rfl
    | cons h1 _ ih => rw [h1]; simp [ih]
  simpa [this] using hR
theorem lc_filterMap {f : TgF} {e : WE} {R : List D → Prop} (g : D → Option D) {ds : List D} (hs : ∀ d ∈ ds, ∀ (acc : List D) (K : List D → Prop), acc.length < sizeLine → K (acc ++ (g d).toList) → lcStep f t e ρ d acc K) (hl : ds.length ≤ sizeLine) (hR : R (ds.filterMap g)) : wLcL f t e ρ R ds [] := by
  refine lc_rel (fun d ys => ys = (g d).toList) (fun d hd acc K ha k => hs d hd acc K ha (k _ rfl (by cases g d <;> simp))) (by simpa using hl) fun yss h => ?_
  have : yss.flatten = ds.filterMap g := by
    clear hs hl hR
    induction h with
    | nil => rfl
    | cons h1 _ ih =>
      rename_i d ys ds yss _
      rw [h1, List.flatten_cons, ih]
      cases e : g d <;> simp [e]
  simpa [this] using hR
theorem lcStep_eq {f : TgF} {e : WE} {d : D} {acc : List D} {K : List D → Prop} : lcStep f t e ρ d acc K = f d fun l => t noZ (storesR ρ l) fun b ρ3 => ρ3 = storesR ρ l ∧ if b = true then e noZ (storesR ρ l) fun y ρ4 => ρ4 = storesR ρ l ∧ acc.length < sizeLine ∧ K (acc ++ [y.frz]) else K acc := rfl
theorem noOwn_of {ρ : Rho} {vs : List Nat} (h : (vs.all fun i => match ρ[i]? with | some (some d) => !d.isOwn | _ => true) = true) : NoOwn ρ vs := fun i hi d e => by
  have := List.all_eq_true.mp h i hi
  rw [e] at this
  simpa using this
end DL

/-! DL8: isinstance by constructors, small facts. -/
namespace DL
open PySem PySem.Spec L2
theorem kb_1 : kitB "NoneType" "int" = some false := by decide +kernel
theorem kb_2 : kitB "bool" "int" = some true := by decide +kernel
theorem kb_3 : kitB "int" "int" = some true := by decide +kernel
theorem kb_4 : kitB "str" "int" = some false := by decide +kernel
theorem kb_5 : kitB "tuple" "int" = some false := by decide +kernel
theorem kb_6 : kitB "list" "int" = some false := by decide +kernel
theorem kb_7 : kitB "dict" "int" = some false := by decide +kernel
theorem kb_8 : kitB "NoneType" "bool" = some false := by decide +kernel
theorem kb_9 : kitB "bool" "bool" = some true := by decide +kernel
theorem kb_10 : kitB "int" "bool" = some false := by decide +kernel
theorem kb_11 : kitB "str" "bool" = some false := by decide +kernel
theorem kb_12 : kitB "tuple" "bool" = some false := by decide +kernel
theorem kb_13 : kitB "list" "bool" = some false := by decide +kernel
theorem kb_14 : kitB "dict" "bool" = some false := by decide +kernel
theorem kb_15 : kitB "NoneType" "tuple" = some false := by decide +kernel
theorem kb_16 : kitB "bool" "tuple" = some false := by decide +kernel
theorem kb_17 : kitB "int" "tuple" = some false := by decide +kernel
theorem kb_18 : kitB "str" "tuple" = some false := by decide +kernel
theorem kb_19 : kitB "tuple" "tuple" = some true := by decide +kernel
theorem kb_20 : kitB "list" "tuple" = some false := by decide +kernel
theorem kb_21 : kitB "dict" "tuple" = some false := by decide +kernel
theorem kb_22 : kitB "NoneType" "str" = some false := by decide +kernel
theorem kb_23 : kitB "bool" "str" = some false := by decide +kernel
theorem kb_24 : kitB "int" "str" = some false := by decide +kernel
theorem kb_25 : kitB "str" "str" = some true := by decide +kernel
theorem kb_26 : kitB "tuple" "str" = some false := by decide +kernel
theorem kb_27 : kitB "list" "str" = some false := by decide +kernel
theorem kb_28 : kitB "dict" "str" = some false := by decide +kernel
def D.known (d : D) : Bool := d.tyName.isSome
def D.isI : D → Bool
  | .int _ => true
  | _ => false
def D.isT : D → Bool
  | .tup _ => true
  | _ => false
def D.isS : D → Bool
  | .str _ => true
  | _ => false
def D.isBl : D → Bool
  | .bl _ => true
  | _ => false
theorem isi_int {d : D} {R : S → Prop} (h : d.known = true) : fIsi [d, .v (.ty "int")] R = R (.d (.bl (d.isI || d.isBl))) := by
  cases d <;> first | (cases h; done) | simp [fIsi, D.tyName, D.isI, D.isBl, kb_1, kb_2, kb_3, kb_4, kb_5, kb_6, kb_7]
theorem isi_bool {d : D} {R : S → Prop} (h : d.known = true) : fIsi [d, .v (.ty "bool")] R = R (.d (.bl d.isBl)) := by
  cases d <;> first | (cases h; done) | simp [fIsi, D.tyName, D.isBl, kb_8, kb_9, kb_10, kb_11, kb_12, kb_13, kb_14]
theorem isi_tuple {d : D} {R : S → Prop} (h : d.known = true) : fIsi [d, .v (.ty "tuple")] R = R (.d (.bl d.isT)) := by
  cases d <;> first | (cases h; done) | simp [fIsi, D.tyName, D.isT, kb_15, kb_16, kb_17, kb_18, kb_19, kb_20, kb_21]
theorem isi_str {d : D} {R : S → Prop} (h : d.known = true) : fIsi [d, .v (.ty "str")] R = R (.d (.bl d.isS)) := by
  cases d <;> first | (cases h; done) | simp [fIsi, D.tyName, D.isS, kb_22, kb_23, kb_24, kb_25, kb_26, kb_27, kb_28]
@[simp] theorem known_int {i : Int} : (D.int i).known = true := rfl
@[simp] theorem known_tup {ds : List D} : (D.tup ds).known = true := rfl
@[simp] theorem known_str {s : Str} : (D.str s).known = true := rfl
@[simp] theorem known_bl {b : Bool} : (D.bl b).known = true := rfl
@[simp] theorem known_non : D.non.known = true := rfl
@[simp] theorem known_lst {ds : List D} : (D.lst ds).known = true := rfl
theorem mapInj {α β : Type} {f : α → β} (hf : ∀ a b, f a = f b → a = b) : ∀ {a b : List α}, a.map f = b.map f → a = b
  | [], [], _ => rfl
  | [], _ :: _, h => by cases h
  | _ :: _, [], h => by cases h
  | x :: xs, y :: ys, h => by
    rw [List.map_cons, List.map_cons] at h
    injection h with h1 h2
    rw [hf _ _ h1, mapInj hf h2]
/-! ### all and any of tests -/
@[simp] theorem s_allB {bs : List Bool} {R : S → Prop} : fAll [.lst (bs.map .bl)] R = R (.d (.bl (bs.all id))) := by
  unfold fAll
  refine propext ⟨fun ⟨cs, e, h⟩ => ?_, fun h => ⟨bs, rfl, h⟩⟩
  have e' : bs.map D.bl = cs.map D.bl := by injection e with e _; injection e
  have : bs = cs := mapInj (fun a b h => by injection h) e'
  rwa [this]
@[simp] theorem s_anyB {bs : List Bool} {R : S → Prop} : fAny [.lst (bs.map .bl)] R = R (.d (.bl (bs.any id))) := by
  unfold fAny
  refine propext ⟨fun ⟨cs, e, h⟩ => ?_, fun h => ⟨bs, rfl, h⟩⟩
  have e' : bs.map D.bl = cs.map D.bl := by injection e with e _; injection e
  have : bs = cs := mapInj (fun a b h => by injection h) e'
  rwa [this]
theorem all_map {α : Type} {ds : List α} {p : α → Bool} {R : S → Prop} : fAll [.lst (ds.map fun d => .bl (p d))] R = R (.d (.bl (ds.all p))) := by
  have : (ds.map fun d => D.bl (p d)) = (ds.map p).map .bl := by simp
  rw [this, s_allB]
  simp [List.all_map]
theorem any_map {α : Type} {ds : List α} {p : α → Bool} {R : S → Prop} : fAny [.lst (ds.map fun d => .bl (p d))] R = R (.d (.bl (ds.any p))) := by
  have : (ds.map fun d => D.bl (p d)) = (ds.map p).map .bl := by simp
  rw [this, s_anyB]
  simp [List.any_map]
theorem int_inj {a b : List Int} (h : a.map D.int = b.map D.int) : a = b := mapInj (fun a b h => by injection h) h
@[simp] theorem s_sumL {ns : List Int} {R : S → Prop} : fSum [.lst (ns.map .int)] R = R (.d (.int ns.sum)) := by
  unfold fSum fInts
  refine propext ⟨fun ⟨ms, e, h⟩ => ?_, fun h => ⟨ns, .inl rfl, h⟩⟩
  rcases e with e | e
  · have : ns = ms := int_inj (by injection e with e _; injection e)
    rwa [this]
  · injection e with e _; cases e
theorem sl0 {α : Type} (l : List α) (n : Nat) (h : n ≤ 1000) (e : l.length ≤ n) : l.length ≤ sizeLine := Nat.le_trans e (Nat.le_trans h (by decide))
theorem sizeLine_big : 1000000 ≤ sizeLine := by decide
/-- the ints as data -/
abbrev tI (ns : List Int) : D := .tup (ns.map .int)
abbrev gI (ns : List Int) : D := .lst (ns.map .int)
theorem atI_pos {α : Type} {xs : List α} {i : Int} {x : α} (h0 : 0 ≤ i) (h : xs[i.toNat]? = some x) : L2.atI xs i = some x := by
  obtain ⟨n, rfl⟩ := Int.eq_ofNat_of_zero_le h0
  exact L2.atI_nat (by simpa using h)
theorem ix_tI {ns : List Int} {i x : Int} {R : S → Prop} (h0 : 0 ≤ i) (h : ns[i.toNat]? = some x) (hR : R (.d (.int x))) : fIx (tI ns) (.int i) R := by
  refine ⟨_, .int x, rfl, atI_pos h0 ?_, hR⟩
  rw [List.getElem?_map, h, Option.map_some]
theorem ix_gI {ns : List Int} {i x : Int} {R : S → Prop} (h0 : 0 ≤ i) (h : ns[i.toNat]? = some x) (hR : R (.d (.int x))) : fIx (gI ns) (.int i) R := by
  refine ⟨_, .int x, rfl, atI_pos h0 ?_, hR⟩
  rw [List.getElem?_map, h, Option.map_some]
theorem ix_tup {ds : List D} {i : Int} {x : D} {R : S → Prop} (h0 : 0 ≤ i) (h : ds[i.toNat]? = some x) (hR : R (.d x)) : fIx (.tup ds) (.int i) R := ⟨_, x, rfl, atI_pos h0 h, hR⟩
theorem ix_lst {ds : List D} {i : Int} {x : D} {R : S → Prop} (h0 : 0 ≤ i) (h : ds[i.toNat]? = some x) (hR : R (.d x)) : fIx (.lst ds) (.int i) R := ⟨_, x, rfl, atI_pos h0 h, hR⟩
theorem ix_lastL {ds : List D} {x : D} {R : S → Prop} (hR : R (.d x)) : fIx (.lst (ds ++ [x])) (.int (-1)) R := ⟨_, x, rfl, L2.atI_last ds x, hR⟩
theorem ix_lastT {ds : List D} {x : D} {R : S → Prop} (hR : R (.d x)) : fIx (.tup (ds ++ [x])) (.int (-1)) R := ⟨_, x, rfl, L2.atI_last ds x, hR⟩
theorem sl_0 : (0 ≤ sizeLine) = True := eq_true (by decide)
theorem sl_1 : (1 ≤ sizeLine) = True := eq_true (by decide)
theorem sl_2 : (2 ≤ sizeLine) = True := eq_true (by decide)
theorem sl_3 : (3 ≤ sizeLine) = True := eq_true (by decide)
theorem sl_4 : (4 ≤ sizeLine) = True := eq_true (by decide)
theorem sl_5 : (5 ≤ sizeLine) = True := eq_true (by decide)
theorem sl_6 : (6 ≤ sizeLine) = True := eq_true (by decide)
theorem sl_7 : (7 ≤ sizeLine) = True := eq_true (by decide)
theorem sl_8 : (8 ≤ sizeLine) = True := eq_true (by decide)
theorem lt_01 : ((0 : Nat) < 1) = True := eq_true (by decide)
theorem lt_02 : ((0 : Nat) < 2) = True := eq_true (by decide)
theorem lt_12 : ((1 : Nat) < 2) = True := eq_true (by decide)
theorem lt_03 : ((0 : Nat) < 3) = True := eq_true (by decide)
theorem lt_13 : ((1 : Nat) < 3) = True := eq_true (by decide)
theorem lt_23 : ((2 : Nat) < 3) = True := eq_true (by decide)
theorem x_par3 {E : DEnds} {ρ : Rho} {i j l : Nat} {wa wb wc : WE} : wPar3 i j l wa wb wc E ρ = wa E.ex ρ fun x ρ1 => wb E.ex ρ1 fun y ρ2 => wc E.ex ρ2 fun z ρ3 => E.nx (((ρ3.set i (some x)).set j (some y)).set l (some z)) := rfl
theorem x_ext {E : DEnds} {ρ : Rho} {i : Nat} {w : WE} : wExt i w E ρ = ((∃ d0, ρ[i]? = some (some (.own d0))) ∧ w E.ex ρ fun d ρ1 => match ρ1[i]?, d.frz with | some (some (.own ds)), .lst es => ds.length + es.length ≤ sizeLine ∧ E.nx (ρ1.set i (some (.own (ds ++ es)))) | _, _ => False) := rfl
theorem g_1 {j : Int} {N : List D → Prop} : rg1 [.int j] N = ((-(2 ^ 62) ≤ j ∧ j < 2 ^ 62) ∧ N (rangeD 0 j.toNat)) := rfl
theorem g_2 {i j : Int} {N : List D → Prop} : rg2 [.int i, .int j] N = ((-(2 ^ 62) ≤ i ∧ i < 2 ^ 62 ∧ -(2 ^ 62) ≤ j ∧ j < 2 ^ 62) ∧ N (rangeD i (j - i).toNat)) := rfl
theorem g_3 {i j c : Int} {N : List D → Prop} : rg3 [.int i, .int j, .int c] N = (∃ n, RgC i j c n ∧ N (rangeDC i c n)) := rfl
/-- a scalar asked at an index that is there -/
theorem ix_tIn {ns : List Int} {n : Nat} {R : S → Prop} (h : n < ns.length) (hR : R (.d (.int (ns.getD n 0)))) : fIx (tI ns) (.int n) R :=
  ix_tI (by omega) (by rw [Int.toNat_natCast, List.getD_eq_getElem?_getD, List.getElem?_eq_getElem h]; rfl) hR
theorem ix_tIi {ns : List Int} {i : Int} {n : Nat} {R : S → Prop} (e : i = n) (h : n < ns.length) (hR : R (.d (.int (ns.getD n 0)))) : fIx (tI ns) (.int i) R := by
  subst e
  exact ix_tIn h hR
end DL

/-! DL9: data that may be compared and shown. -/
namespace DL
open PySem PySem.Spec L2
mutual
/-- at most n deep, ints of at most 200 bits, good texts -/
def D.nice : Nat → D → Bool
  | _, .non => true
  | _, .bl _ => true
  | _, .int i => decide (i.natAbs < 2 ^ 200)
  | _, .str s => PyData.strOk s
  | n + 1, .tup ds => D.niceA n ds
  | n + 1, .lst ds => D.niceA n ds
  | n + 1, .rls ds => D.niceA n ds
  | _, _ => false
def D.niceA : Nat → List D → Bool
  | _, [] => true
  | n, d :: ds => D.nice n d && D.niceA n ds
end
mutual
def D.wt : D → Nat
  | .int _ => 200
  | .str s => s.cps.size
  | .tup ds => D.wtA ds
  | .lst ds => D.wtA ds
  | .rls ds => D.wtA ds
  | _ => 0
def D.wtA : List D → Nat
  | [] => 0
  | d :: ds => D.wt d + 1 + D.wtA ds
end
theorem showLen (i : Int) (h : (Nat.toDigits 10 i.natAbs).length ≤ 61) : (Str.ofString (toString i)).length ≤ 64 := by
  have nat : ∀ m : Nat, (Nat.toDigits 10 m).length ≤ 61 → (Str.ofString (toString (Int.ofNat m))).length ≤ 61 := fun m hm => by
    rw [PyProof.Rows.ofString_len]
    show (Nat.repr m).length ≤ 61
    simpa [Nat.repr] using hm
  by_cases z : i < 0
  · rw [PyProof.Rows.len_text_neg z]
    have e : (0 : Int) - i = Int.ofNat i.natAbs := by simp; omega
    have := nat i.natAbs h
    rw [e]; omega
  · have e : i = Int.ofNat i.natAbs := by simp; omega
    have := nat i.natAbs h
    rw [← e] at this; omega
mutual
theorem nice_of : ∀ (n : Nat) (d : D), d.nice n = true → d.isPy = true ∧ d.py.canLay0 = true ∧ d.py.depth ≤ n ∧ d.py.showable = true ∧ d.py.intsShort 64 = true ∧ d.py.weight ≤ d.wt
  | _, .non, _ => ⟨rfl, rfl, Nat.zero_le _, rfl, rfl, Nat.le_refl _⟩
  | _, .bl _, _ => ⟨rfl, rfl, Nat.zero_le _, rfl, rfl, Nat.le_refl _⟩
  | _, .int i, h => by
    have h : i.natAbs < 2 ^ 200 := of_decide_eq_true (by simpa only [D.nice] using h)
    have l : i ≠ 0 → i.natAbs.log2 < 200 := fun z => (Nat.log2_lt (by omega)).mpr h
    have d := PyProof.Rows.digits10_le (k := 61) (n := i.natAbs) (by decide) (Nat.lt_of_lt_of_le h (by decide +kernel))
    refine ⟨rfl, rfl, Nat.zero_le _, ?_, ?_, ?_⟩
    · by_cases z : i = 0
      · subst z; decide
      · simp only [D.py, PyData.showable, decide_eq_true_eq]; have := l z; omega
    · simp only [D.py, PyData.intsShort, decide_eq_true_eq, PyData.shown]
      exact decide_eq_true (showLen i d)
    · by_cases z : i = 0
      · subst z; decide
      · have := l z
        simp only [D.py, PyData.weight, D.wt]
        split <;> omega
  | _, .str s, h => ⟨rfl, by simpa only [D.py, PyData.canLay0, D.nice] using h, Nat.zero_le _, rfl, rfl, Nat.le_refl _⟩
  | n + 1, .tup ds, h => by
    obtain ⟨a, b, c, d, e, f⟩ := niceA_of n ds (by simpa only [D.nice] using h)
    exact ⟨a, by simpa only [D.py, PyData.canLay0] using b, by simp only [D.py, PyData.depth]; omega, by simpa only [D.py, PyData.showable] using d, by simpa only [D.py, PyData.intsShort] using e, by simpa only [D.py, PyData.weight, D.wt] using f⟩
  | n + 1, .lst ds, h => by
    obtain ⟨a, b, c, d, e, f⟩ := niceA_of n ds (by simpa only [D.nice] using h)
    exact ⟨a, by simpa only [D.py, PyData.canLay0] using b, by simp only [D.py, PyData.depth]; omega, by simpa only [D.py, PyData.showable] using d, by simpa only [D.py, PyData.intsShort] using e, by simpa only [D.py, PyData.weight, D.wt] using f⟩
  | n + 1, .rls ds, h => by
    obtain ⟨a, b, c, d, e, f⟩ := niceA_of n ds (by simpa only [D.nice] using h)
    exact ⟨a, by simpa only [D.py, PyData.canLay0] using b, by simp only [D.py, PyData.depth]; omega, by simpa only [D.py, PyData.showable] using d, by simpa only [D.py, PyData.intsShort] using e, by simpa only [D.py, PyData.weight, D.wt] using f⟩
  | 0, .tup _, h => by simp [D.nice] at h
  | 0, .lst _, h => by simp [D.nice] at h
  | 0, .rls _, h => by simp [D.nice] at h
  | 0, .jar, h => by simp [D.nice] at h
  | 0, .v _, h => by simp [D.nice] at h
  | 0, .dic _, h => by simp [D.nice] at h
  | 0, .ins _ _, h => by simp [D.nice] at h
  | n + 1, .jar, h => by simp [D.nice] at h
  | n + 1, .v _, h => by simp [D.nice] at h
  | n + 1, .dic _, h => by simp [D.nice] at h
  | n + 1, .ins _ _, h => by simp [D.nice] at h
theorem niceA_of : ∀ (n : Nat) (ds : List D), D.niceA n ds = true → D.arePy ds = true ∧ PyData.canLayAll0 (D.pys ds) = true ∧ PyData.depthAll (D.pys ds) ≤ n ∧ PyData.showableAll (D.pys ds) = true ∧ PyData.intsShortAll 64 (D.pys ds) = true ∧ PyData.weightAll (D.pys ds) ≤ D.wtA ds
  | _, [], _ => ⟨rfl, rfl, Nat.zero_le _, rfl, rfl, Nat.le_refl _⟩
  | n, d :: ds, h => by
    have h : (d.nice n && D.niceA n ds) = true := by simpa only [D.niceA] using h
    rw [Bool.and_eq_true] at h
    obtain ⟨a, b, c, e, f, g⟩ := nice_of n d h.1
    obtain ⟨a', b', c', e', f', g'⟩ := niceA_of n ds h.2
    refine ⟨by simp only [D.arePy, a, a', Bool.and_self], by simp only [D.pys, PyData.canLayAll0, b, b', Bool.and_self], ?_, by simp only [D.pys, PyData.showableAll, e, e', Bool.and_self], by simp only [D.pys, PyData.intsShortAll, f, f', Bool.and_self], ?_⟩
    · simp only [D.pys, PyData.depthAll]; omega
    · simp only [D.pys, PyData.weightAll, D.wtA]; omega
end
theorem okEq_of {n : Nat} {d : D} (h : d.nice n = true) (hn : n ≤ 60) : d.okEq = true := by
  obtain ⟨a, b, c, -⟩ := nice_of n d h
  simp only [D.okEq, a, SeqAt.shaped, b, Bool.true_and, decide_eq_true_eq]
  omega
theorem okRepr_of {n : Nat} {d : D} (h : d.nice n = true) (hn : n ≤ 60) (hw : d.wt ≤ 200000) : d.okRepr := by
  obtain ⟨a, b, c, e, f, g⟩ := nice_of n d h
  refine ⟨a, e, Nat.le_trans c hn, ?_⟩
  have := PyData.shown_le 64 (by decide) _ (PyData.leavesShort_of_canLay0 64 _ b f)
  have : sizeLine = 2 ^ 24 := rfl
  have : (2 : Nat) ^ 24 = 16777216 := by decide
  omega
theorem cmp_of {n : Nat} {d e : D} (h : d.nice n = true) (h' : e.nice n = true) (hn : n ≤ 60) : D.cmpOk d e = true := by
  simp only [D.cmpOk, okEq_of h hn, okEq_of h' hn, Bool.and_self, Bool.or_true]
mutual
theorem eqv_self : ∀ d : D, d.isPy = true → PyData.eqv d.py d.py = true
  | .non, _ => rfl
  | .bl b, _ => by simp [D.py, PyData.eqv]
  | .int _, _ => by simp [D.py, PyData.eqv]
  | .str _, _ => by simp [D.py, PyData.eqv]
  | .tup ds, h => by simpa only [D.py, PyData.eqv] using eqvA_self ds h
  | .lst ds, h => by simpa only [D.py, PyData.eqv] using eqvA_self ds h
  | .rls ds, h => by simpa only [D.py, PyData.eqv] using eqvA_self ds h
  | .jar, h => by cases h
  | .v _, h => by cases h
  | .dic _, h => by cases h
  | .ins _ _, h => by cases h
theorem eqvA_self : ∀ ds : List D, D.arePy ds = true → PyData.eqvAll (D.pys ds) (D.pys ds) = true
  | [], _ => rfl
  | d :: ds, h => by
    have h : (d.isPy && D.arePy ds) = true := h
    rw [Bool.and_eq_true] at h
    simp only [D.pys, PyData.eqvAll, eqv_self d h.1, eqvA_self ds h.2, Bool.and_self]
end
theorem eq_self {n : Nat} {d : D} {R : S → Prop} (h : d.nice n = true) (hn : n ≤ 60) (k : R (.d (.bl true))) : fEq d d R :=
  ⟨cmp_of h h hn, by rw [D.eqb, eqv_self d (nice_of n d h).1]; exact k⟩
theorem ne_self {n : Nat} {d : D} {R : S → Prop} (h : d.nice n = true) (hn : n ≤ 60) (k : R (.d (.bl false))) : fNe d d R :=
  ⟨cmp_of h h hn, by rw [D.eqb, eqv_self d (nice_of n d h).1]; exact k⟩
theorem repr_of {n : Nat} {d : D} {R : S → Prop} (h : d.nice n = true) (hn : n ≤ 60) (hw : d.wt ≤ 200000) (k : R (.d (.str d.py.shown))) : fRepr [d] R := ⟨okRepr_of h hn hw, k⟩
@[simp] theorem s_eqS {a b : Str} {R : S → Prop} : fEq (.str a) (.str b) R = R (.d (.bl (a == b))) := by
  unfold fEq; simp [D.cmpOk, D.okSc, D.scl, D.eqb, D.py, PyData.eqv]
@[simp] theorem s_neS {a b : Str} {R : S → Prop} : fNe (.str a) (.str b) R = R (.d (.bl (!(a == b)))) := by
  unfold fNe; simp [D.cmpOk, D.okSc, D.scl, D.eqb, D.py, PyData.eqv]
theorem str_self {s : Str} : (s == s) = true := by simp
/-! ### nice lists -/
theorem niceA_all {n : Nat} : ∀ {ds : List D}, (∀ d ∈ ds, d.nice n = true) → D.niceA n ds = true
  | [], _ => by simp [D.niceA]
  | d :: ds, h => by
    rw [D.niceA, h d (List.mem_cons_self ..), niceA_all fun e he => h e (List.mem_cons_of_mem _ he)]
    rfl
theorem nice_tup {n : Nat} {ds : List D} (h : ∀ d ∈ ds, d.nice n = true) : (D.tup ds).nice (n + 1) = true := by rw [D.nice]; exact niceA_all h
theorem nice_lst {n : Nat} {ds : List D} (h : ∀ d ∈ ds, d.nice n = true) : (D.lst ds).nice (n + 1) = true := by rw [D.nice]; exact niceA_all h
theorem nice_int {n : Nat} {i : Int} (h : i.natAbs < 2 ^ 200) : (D.int i).nice n = true := by
  cases n <;> simp only [D.nice, decide_eq_true_eq] <;> exact h
theorem nice_bl {n : Nat} {b : Bool} : (D.bl b).nice n = true := by cases n <;> simp only [D.nice]
theorem nice_non {n : Nat} : (D.non).nice n = true := by cases n <;> simp only [D.nice]
theorem nice_tI {n : Nat} {ns : List Int} (h : ∀ i ∈ ns, i.natAbs < 2 ^ 200) : (tI ns).nice (n + 1) = true := nice_tup fun d hd => by
  obtain ⟨i, hi, rfl⟩ := List.mem_map.mp hd
  exact nice_int (h i hi)
theorem wtA_le {w : Nat} : ∀ {ds : List D}, (∀ d ∈ ds, d.wt ≤ w) → D.wtA ds ≤ (w + 1) * ds.length
  | [], _ => Nat.zero_le _
  | d :: ds, h => by
    have h1 := h d (List.mem_cons_self ..)
    have h2 := wtA_le fun e he => h e (List.mem_cons_of_mem _ he)
    rw [D.wtA, List.length_cons, Nat.mul_add]
    omega
theorem wt_tI {ns : List Int} : (tI ns).wt ≤ 201 * ns.length := by
  rw [D.wt]
  have := wtA_le (w := 200) (ds := ns.map D.int) fun d hd => by
    obtain ⟨i, _, rfl⟩ := List.mem_map.mp hd
    simp [D.wt]
  simpa using this
/-! ### equality of data of one kind -/
theorem eqbA_map {α : Type} [DecidableEq α] {f : α → D} (hf : ∀ a b, D.eqb (f a) (f b) = decide (a = b)) : ∀ xs ys : List α, PyData.eqvAll (D.pys (xs.map f)) (D.pys (ys.map f)) = decide (xs = ys)
  | [], [] => by simp [D.pys, PyData.eqvAll]
  | [], _ :: _ => by simp [D.pys, PyData.eqvAll]
  | _ :: _, [] => by simp [D.pys, PyData.eqvAll]
  | x :: xs, y :: ys => by
    have e := hf x y
    rw [D.eqb] at e
    rw [List.map_cons, List.map_cons, D.pys, D.pys, PyData.eqvAll, e, eqbA_map hf xs ys, ← Bool.decide_and]
    exact decide_eq_decide.mpr (by rw [List.cons.injEq])
theorem eqb_tupM {α : Type} [DecidableEq α] {f : α → D} (hf : ∀ a b, D.eqb (f a) (f b) = decide (a = b)) (xs ys : List α) : D.eqb (.tup (xs.map f)) (.tup (ys.map f)) = decide (xs = ys) := by
  rw [D.eqb, D.py, D.py, PyData.eqv]; exact eqbA_map hf xs ys
theorem eqb_lstM {α : Type} [DecidableEq α] {f : α → D} (hf : ∀ a b, D.eqb (f a) (f b) = decide (a = b)) (xs ys : List α) : D.eqb (.lst (xs.map f)) (.lst (ys.map f)) = decide (xs = ys) := by
  rw [D.eqb, D.py, D.py, PyData.eqv]; exact eqbA_map hf xs ys
theorem eqb_int (a b : Int) : D.eqb (.int a) (.int b) = decide (a = b) := by
  simp only [D.eqb, D.py, PyData.eqv]; exact Bool.eq_iff_iff.mpr (by simp)
theorem eqb_tI (xs ys : List Int) : D.eqb (tI xs) (tI ys) = decide (xs = ys) := eqb_tupM eqb_int xs ys
theorem eqb_gI (xs ys : List Int) : D.eqb (gI xs) (gI ys) = decide (xs = ys) := eqb_lstM eqb_int xs ys
theorem okEqA_int : ∀ ns : List Int, D.arePy (ns.map D.int) = true ∧ PyData.canLayAll0 (D.pys (ns.map D.int)) = true ∧ PyData.depthAll (D.pys (ns.map D.int)) = 0
  | [] => ⟨rfl, rfl, rfl⟩
  | n :: ns => by
    obtain ⟨a, b, c⟩ := okEqA_int ns
    exact ⟨by simp only [List.map_cons, D.arePy, D.isPy, a, Bool.and_self], by simp only [List.map_cons, D.pys, D.py, PyData.canLayAll0, PyData.canLay0, b, Bool.and_self], by simp only [List.map_cons, D.pys, D.py, PyData.depthAll, PyData.depth, c, Nat.max_self]⟩
theorem okEq_tI (ns : List Int) : (tI ns).okEq = true := by
  obtain ⟨a, b, c⟩ := okEqA_int ns
  simp only [D.okEq, D.isPy, D.py, SeqAt.shaped, PyData.canLay0, PyData.depth, a, b, c]
  decide
theorem okEq_gI (ns : List Int) : (gI ns).okEq = true := by
  obtain ⟨a, b, c⟩ := okEqA_int ns
  simp only [D.okEq, D.isPy, D.py, SeqAt.shaped, PyData.canLay0, PyData.depth, a, b, c]
  decide
theorem s_eqTI {a b : List Int} {R : S → Prop} : fEq (tI a) (tI b) R = R (.d (.bl (decide (a = b)))) := by
  unfold fEq; rw [eqb_tI, D.cmpOk, okEq_tI, okEq_tI]; simp
theorem s_neTI {a b : List Int} {R : S → Prop} : fNe (tI a) (tI b) R = R (.d (.bl (!decide (a = b)))) := by
  unfold fNe; rw [eqb_tI, D.cmpOk, okEq_tI, okEq_tI]; simp
theorem s_eqGI {a b : List Int} {R : S → Prop} : fEq (gI a) (gI b) R = R (.d (.bl (decide (a = b)))) := by
  unfold fEq; rw [eqb_gI, D.cmpOk, okEq_gI, okEq_gI]; simp
theorem s_neGI {a b : List Int} {R : S → Prop} : fNe (gI a) (gI b) R = R (.d (.bl (!decide (a = b)))) := by
  unfold fNe; rw [eqb_gI, D.cmpOk, okEq_gI, okEq_gI]; simp
theorem s_neT1 {a : List Int} {i : Int} {R : S → Prop} : fNe (tI a) (.tup [.int i]) R = R (.d (.bl (!decide (a = [i])))) := s_neTI (b := [i])
theorem s_eqT1 {a : List Int} {i : Int} {R : S → Prop} : fEq (tI a) (.tup [.int i]) R = R (.d (.bl (decide (a = [i])))) := s_eqTI (b := [i])
/-! ### the jar -/
theorem j_ix0 {R : S → Prop} : fIx .jar (.int 0) R = ∀ n : Int, R (.d (.int n)) := propext ⟨fun h n => h.2 n fun q => absurd q (by decide), fun h => ⟨.inl rfl, fun n _ => h n⟩⟩
theorem j_ix2 {R : S → Prop} : fIx .jar (.int 2) R = ∀ n : Int, R (.d (.int n)) := propext ⟨fun h n => h.2 n fun q => absurd q (by decide), fun h => ⟨.inr (.inr rfl), fun n _ => h n⟩⟩
theorem j_ix1 {R : S → Prop} : fIx .jar (.int 1) R = ∀ n : Int, (-(2 ^ 40) < n ∧ n < 2 ^ 40) → R (.d (.int n)) := propext ⟨fun h n b => h.2 n fun _ => b, fun h => ⟨.inr (.inl rfl), fun n b => h n (b rfl)⟩⟩
theorem j_s0 {n : Int} {N : S → Prop} : sIx (.d .jar) (.int 0) (.int n) N = N (.d .jar) := propext ⟨fun h => h.2.2, fun h => ⟨.inl rfl, ⟨n, rfl, fun q => absurd q (by decide)⟩, h⟩⟩
theorem j_s2 {n : Int} {N : S → Prop} : sIx (.d .jar) (.int 2) (.int n) N = N (.d .jar) := propext ⟨fun h => h.2.2, fun h => ⟨.inr (.inr rfl), ⟨n, rfl, fun q => absurd q (by decide)⟩, h⟩⟩
theorem j_s1 {n : Int} {N : S → Prop} : sIx (.d .jar) (.int 1) (.int n) N = ((-(2 ^ 40) < n ∧ n < 2 ^ 40) ∧ N (.d .jar)) := propext ⟨fun ⟨_, ⟨m, e, b⟩, h⟩ => by
  injection e with e
  subst e
  exact ⟨b rfl, h⟩, fun h => ⟨.inr (.inl rfl), ⟨n, rfl, fun _ => h.1⟩, h.2⟩⟩
theorem fmod_pos {a b : Int} (h : 0 < b) : 0 ≤ a.fmod b ∧ a.fmod b < b := ⟨Int.fmod_nonneg_of_pos a h, Int.fmod_lt_of_pos a h⟩
theorem s_slT {ds : List D} {lo hi : Option Int} {R : S → Prop} : fSl (.tup ds) lo hi R = R (.d (.tup (cutD ds lo hi))) := rfl
theorem s_slL {ds : List D} {lo hi : Option Int} {R : S → Prop} : fSl (.lst ds) lo hi R = R (.own (cutD ds lo hi)) := rfl
theorem s_slR {ds : List D} {lo hi : Option Int} {R : S → Prop} : fSl (.rls ds) lo hi R = R (.own (cutD ds lo hi)) := rfl
theorem cut_map {α β : Type} {f : α → β} {xs : List α} {lo hi : Option Int} : cutD (xs.map f) lo hi = (cutD xs lo hi).map f := by
  unfold cutD
  rw [List.length_map, List.map_take, List.map_drop]
theorem ix_rls {ds : List D} {i : Int} {x : D} {R : S → Prop} (h0 : 0 ≤ i) (h : ds[i.toNat]? = some x) (hR : R (.d x)) : fIx (.rls ds) (.int i) R := ⟨_, x, rfl, atI_pos h0 h, hR⟩
theorem pow_18 : CPow 10 18 := ⟨by decide, by decide, by decide +kernel⟩
/-! ### loops over ranges and maps -/
theorem rangeD_succ (lo : Int) (n : Nat) : rangeD lo (n + 1) = .int lo :: rangeD (lo + 1) n := by
  unfold rangeD
  rw [List.range_succ_eq_map, List.map_cons, List.map_map]
  congr 1
  · simp
  · apply List.map_congr_left
    intro i _
    simp only [Function.comp_def, D.int.injEq]
    push_cast
    omega
theorem for_rng {E : DEnds} {f : TgF} {b : WS} : ∀ {n : Nat} {lo : Int} {ρ : Rho} (I : Nat → Rho → Prop), I 0 ρ → (∀ i ρ (N : Rho → Prop), i < n → I i ρ → (∀ ρ', I (i + 1) ρ' → N ρ') → f (.int (lo + (i : Nat))) fun l => b { E with nx := N, ct := N, bk := E.nx } (storesR ρ l)) →
    (∀ ρ, I n ρ → E.nx ρ) → wForL f b E (rangeD lo n) ρ
  | 0, lo, ρ, I, h, _, hd => hd ρ h
  | n + 1, lo, ρ, I, h, hs, hd => by
    rw [rangeD_succ]
    have := hs 0 ρ (fun ρ' => wForL f b E (rangeD (lo + 1) n) ρ') (Nat.succ_pos _) h fun ρ' h' => for_rng (fun i => I (i + 1)) h' (fun i ρ N hi hI k => by
      have := hs (i + 1) ρ N (by omega) hI k
      have e : lo + ((i + 1 : Nat) : Int) = lo + 1 + (i : Nat) := by push_cast; omega
      rwa [e] at this) hd
    have e : lo + ((0 : Nat) : Int) = lo := by simp
    rw [e] at this
    exact this
theorem for_map {α : Type} {g : α → D} {E : DEnds} {f : TgF} {b : WS} : ∀ {xs : List α} {ρ : Rho} (I : List α → Rho → Prop), I xs ρ → (∀ x xs ρ (N : Rho → Prop), I (x :: xs) ρ → (∀ ρ', I xs ρ' → N ρ') → f (g x) fun l => b { E with nx := N, ct := N, bk := E.nx } (storesR ρ l)) →
    (∀ ρ, I [] ρ → E.nx ρ) → wForL f b E (xs.map g) ρ
  | [], ρ, I, h, _, hd => hd ρ h
  | x :: xs, ρ, I, h, hs, hd => hs x xs ρ _ h fun ρ' h' => for_map I h' hs hd
theorem lc_ints {f : TgF} {t : WT} {e : WE} {ρ : Rho} {R : List D → Prop} (g : Int → Int) {ns : List Int} (hs : ∀ n ∈ ns, ∀ (acc : List D) (K : List D → Prop), acc.length < sizeLine → K (acc ++ [.int (g n)]) → lcStep f t e ρ (.int n) acc K) (hl : ns.length ≤ sizeLine) (hR : R ((ns.map g).map .int)) : wLcL f t e ρ R (ns.map .int) [] := by
  refine lc_map (fun d => match d with | .int n => D.int (g n) | d => d) (fun d hd acc K ha k => ?_) (by simpa using hl) ?_
  · obtain ⟨n, hn, rfl⟩ := List.mem_map.mp hd
    exact hs n hn acc K ha k
  · have : (ns.map D.int).map (fun d => match d with | .int n => D.int (g n) | d => d) = (ns.map g).map .int := by simp [List.map_map, Function.comp_def]
    rwa [this]
theorem s_sortedA {ns : List Int} {R : S → Prop} (h : ns.Pairwise (· ≤ ·)) (hR : R (.own (ns.map .int))) : fSorted [.lst (ns.map .int)] R := by
  refine ⟨ns, .inl rfl, fun ns' p s => ?_⟩
  have : ns' = ns := p.eq_of_pairwise (fun a b _ _ h1 h2 => Int.le_antisymm h1 h2) s h
  rw [this]
  exact hR
theorem pow_30 : CPow 10 30 := ⟨by decide, by decide, by decide +kernel⟩
theorem pow_6 : CPow 10 6 := ⟨by decide, by decide, by decide +kernel⟩
end DL

set_option maxHeartbeats 4000000
namespace Law
open PySem PySem.Spec L2 DL
local macro_rules | `(tactic| walk_at "dl") => `(tactic| simp only [rho0, List.replicate_succ, List.replicate_zero, Nat.reduceAdd, Nat.reduceSub, Nat.reduceLeDiff, List.length_nil, List.length_cons, List.map_cons, List.map_nil, List.cons_append, List.nil_append, List.getElem?_cons_zero, List.getElem?_cons_succ, List.set_cons_zero, List.set_cons_succ,
  Option.some.injEq, S.own.injEq, exists_eq_left', exists_eq_left, exists_eq', exists_eq, exists_const, if_true, if_false, ite_true, ite_false, Bool.false_eq_true, reduceIte, true_and, and_true, decide_eq_true_eq, Bool.not_true, Bool.not_false, Bool.not_eq_true', beq_iff_eq, bne_iff_ne, beq_eq_false_iff_ne, decide_eq_false_iff_not, ne_eq, ite_not, not_true_eq_false, not_false_eq_true, Int.zero_add, List.length_map, List.zip_cons_cons, List.zip_nil_right, List.zip_nil_left, List.mem_cons, List.not_mem_nil, or_false, forall_eq_or_imp, forall_eq, permL, List.getD_cons_zero, List.getD_cons_succ, sl_1, sl_2, sl_3, sl_4, sl_5, sl_6, sl_7, sl_8, sl_0, lt_01, lt_02, lt_12, lt_03, lt_13, lt_23,
  x_seq, x_next, x_brk, x_cnt, x_drop, x_ret, x_retN, x_if, x_set, x_par, x_par3, x_asgN, x_for, x_var, x_c, x_bin, x_un, x_b, x_and, x_or, x_not, x_andV, x_orV, x_notV, x_ifE, x_nil, x_cons, x_tup, x_lst, x_callB, x_call, x_callK, x_ixV, x_lenV, x_opV, x_opW, x_app, x_ext, x_setIx, x_items, x_rng, x_yes, x_lc, x_sl, x_nop, x_part, x_chain, x_never, x_is, x_isn,
  s_frz_d, s_frz_own, s_own_d, s_own_own, s_isB, s_i2, s_sub, s_addI, s_addT, s_addL, s_mulI, s_divI, s_modI, s_powI, s_neg, s_eqI, s_neI, s_int1, s_abs, s_max2, s_min2, s_lenT, s_lenL, s_lenR, s_tupL, s_tupT, s_lstT, s_lstL, i_t, i_l, i_r, f_name, f_tup, st_nil, st_cons, wi_nil, wi_cons, isN_non, isN_tup, isN_int, isN_lst, isN_str, lcStep_eq, g_1, g_2, g_3, j_ix0, j_ix1, j_ix2, j_s0, j_s1, j_s2, s_slT, s_slL, s_slR, s_eqS, s_neS])
local macro_rules | `(tactic| walk_at "mo") => `(tactic| first | exact .inl (.inl ⟨by decide, by decide⟩) | exact .inl (.inr ⟨by decide, by decide⟩) | exact .inl (.inl ⟨by omega, by omega⟩) | exact .inl (.inr ⟨by omega, by omega⟩))

/-! ### lists: is_integer, is_list, check_list, moved -/
def ascD : List D → Bool
  | .int a :: .int b :: r => decide (a < b) && ascD (.int b :: r)
  | _ => true
/-- an ascending tuple of one to forty integers -/
def isListB : D → Bool
  | .tup ds => decide (1 ≤ ds.length) && decide (ds.length ≤ 40) && (ds.all D.isI && ascD ds)
  | _ => false
/-- is known, and so is what stands in it -/
def knownL : D → Bool
  | .tup ds => ds.all D.known
  | d => d.known
def wf_is_integer : WF := fun _ ds R => match ds with
  | [d] => d.known = true ∧ R (.d (.bl d.isI))
  | _ => False
def wf_is_list : WF := fun _ ds R => match ds with
  | [d] => knownL d = true ∧ R (.d (.bl (isListB d)))
  | _ => False
def wf_check_list : WF := fun _ ds R => match ds with
  | [d] => isListB d = true ∧ R (.d .non)
  | _ => False
def movedI (ns : List Int) : List Int := ns.map fun n => n - ns.headD 0
def wf_moved : WF := fun _ ds R => ∃ ns : List Int, ds = [tI ns] ∧ ns ≠ [] ∧ ns.length ≤ 1000 ∧ R (.d (tI (movedI ns)))
theorem ascD_get : ∀ {ds : List D}, ds.all D.isI = true → (ascD ds = true ↔ ∀ (i : Nat) (a b : Int), ds[i]? = some (.int a) → ds[i + 1]? = some (.int b) → a < b)
  | [], _ => by simp [ascD]
  | [d], _ => by
    have : ascD [d] = true := by cases d <;> rfl
    simp [this]
  | .int a :: .int b :: r, h => by
    have ih := ascD_get (ds := .int b :: r) (by simp at h ⊢; exact h.2)
    rw [ascD, Bool.and_eq_true, decide_eq_true_iff, ih]
    constructor
    · rintro ⟨h1, h2⟩ i x y hx hy
      cases i with
      | zero => cases hx; cases hy; exact h1
      | succ i => exact h2 i x y (by simpa using hx) (by simpa using hy)
    · intro h
      exact ⟨h 0 a b rfl rfl, fun i x y hx hy => h (i + 1) x y (by simpa using hx) (by simpa using hy)⟩
  | d :: e :: r, h => by
    simp only [List.all_cons, Bool.and_eq_true] at h
    cases d <;> first | (simp [D.isI] at h; done) | skip
    cases e <;> first | (simp [D.isI] at h; done) | skip
    rename_i a b
    have ih := ascD_get (ds := .int b :: r) (by simpa [D.isI] using h.2.2)
    rw [ascD, Bool.and_eq_true, decide_eq_true_iff, ih]
    constructor
    · rintro ⟨h1, h2⟩ i x y hx hy
      cases i with
      | zero => cases hx; cases hy; exact h1
      | succ i => exact h2 i x y (by simpa using hx) (by simpa using hy)
    · intro h
      exact ⟨h 0 a b rfl rfl, fun i x y hx hy => h (i + 1) x y (by simpa using hx) (by simpa using hy)⟩
theorem allI_map : ∀ {es : List D}, es.all D.isI = true → ∃ ns : List Int, es = ns.map .int
  | [], _ => ⟨[], rfl⟩
  | d :: es, h => by
    simp only [List.all_cons, Bool.and_eq_true] at h
    obtain ⟨ns, rfl⟩ := allI_map h.2
    cases d <;> first | exact ⟨_ :: ns, rfl⟩ | (cases h.1; done)
def ltAt (ns : List Int) : D → Bool
  | .int i => decide (ns.getD i.toNat 0 < ns.getD (i.toNat + 1) 0)
  | _ => true
theorem allI_of (ns : List Int) : (ns.map D.int).all D.isI = true := by
  rw [List.all_map]
  exact List.all_eq_true.mpr fun _ _ => rfl
theorem asc_all (ns : List Int) (h : 1 ≤ ns.length) : (rangeD 0 ((ns.length : Int) - 1).toNat).all (ltAt ns) = ascD (ns.map .int) := by
  rw [Bool.eq_iff_iff, ascD_get (allI_of ns)]
  unfold rangeD
  rw [List.all_map, List.all_eq_true]
  constructor
  · intro q i a b ha hb
    rw [List.getElem?_map] at ha hb
    have hb' : i + 1 < ns.length := by
      by_cases z : i + 1 < ns.length
      · exact z
      · rw [List.getElem?_eq_none (by omega)] at hb; cases hb
    have := q i (List.mem_range.mpr (by omega))
    simp only [Function.comp, ltAt, decide_eq_true_iff] at this
    rw [List.getElem?_eq_getElem (by omega)] at ha hb
    cases ha
    cases hb
    have e1 : (0 + (i : Int)).toNat = i := by omega
    rw [e1, List.getD_eq_getElem?_getD, List.getD_eq_getElem?_getD, List.getElem?_eq_getElem (by omega : i < ns.length), List.getElem?_eq_getElem hb'] at this
    exact this
  · intro q i hi
    have hi' : i < ((ns.length : Int) - 1).toNat := List.mem_range.mp hi
    simp only [Function.comp, ltAt, decide_eq_true_iff]
    have e1 : (0 + (i : Int)).toNat = i := by omega
    rw [e1, List.getD_eq_getElem?_getD, List.getD_eq_getElem?_getD, List.getElem?_eq_getElem (by omega : i < ns.length), List.getElem?_eq_getElem (by omega : i + 1 < ns.length)]
    exact q i _ _ (by rw [List.getElem?_map, List.getElem?_eq_getElem (by omega)]; rfl) (by rw [List.getElem?_map, List.getElem?_eq_getElem (by omega)]; rfl)
theorem isListB_known {d : D} (h : isListB d = true) : knownL d = true := by
  cases d <;> first | (cases h; done) | skip
  rename_i es
  simp only [isListB, Bool.and_eq_true] at h
  refine List.all_eq_true.mpr fun x hx => ?_
  have := List.all_eq_true.mp h.2.1 x hx
  cases x <;> first | rfl | cases this

/-! ### runs, blocks, division: the own ladder of a list -/
def runFrom : Int → List Int → Nat
  | _, [] => 0
  | k, n :: r => if n = k then runFrom (k + 1) r + 1 else 0
def runOf (ns : List Int) : Nat := runFrom 0 ns
def wbGo (ns : List Int) (m : Nat) : List Nat → Option (List Int)
  | [] => some []
  | i :: is => if ns.getD (i * m) 0 % m ≠ 0 ∨ ns.getD (i * m + m - 1) 0 ≠ ns.getD (i * m) 0 + m - 1 then none else (wbGo ns m is).map ((ns.getD (i * m) 0 / m) :: ·)
def withoutB (ns : List Int) (m : Nat) : Option (List Int) := if ns.length % m ≠ 0 then none else wbGo ns m (List.range (ns.length / m))
def dividedB (ns : List Int) (b : Int) : Option (List Int) := if ns.all (fun n => n % b == 0) = true then some (ns.map (· / b)) else none
def ownF : Nat → List Int → Option (List (Int × Int))
  | 0, _ => none
  | f + 1, ns => if ns = [0] then some [] else
      if ns.getD 1 0 = 1 then (withoutB ns (runOf ns)).bind fun l => (ownF f l).map (((runOf ns : Int), 0) :: ·)
      else (dividedB ns (ns.getD 1 0)).bind fun l => (ownF f l).map ((ns.getD 1 0, 1) :: ·)
def lastOf (ns : List Int) : Int := ns.getD (ns.length - 1) 0
set_option exponentiation.threshold 10000 in
def capI : Int := 2 ^ 8000
/-- begun at 0, ascending, not too great -/
structure Asc0 (ns : List Int) : Prop where
  ne : ns ≠ []
  h0 : ns.getD 0 0 = 0
  asc : ∀ i j, i < j → j < ns.length → ns.getD i 0 < ns.getD j 0
  big : lastOf ns < capI
  len : ns.length ≤ 40
def own (ns : List Int) : Option (List (Int × Int)) := ownF ((lastOf ns).toNat + 1) ns
theorem Asc0.nn {ns : List Int} (h : Asc0 ns) (i : Nat) (hi : i < ns.length) : 0 ≤ ns.getD i 0 := by
  cases i with
  | zero => rw [h.h0]; exact Int.le_refl _
  | succ i => have := h.asc 0 (i + 1) (by omega) hi; rw [h.h0] at this; omega
theorem Asc0.pos {ns : List Int} (h : Asc0 ns) : 1 ≤ ns.length := by
  cases ns with
  | nil => exact absurd rfl h.ne
  | cons => simp
theorem Asc0.le_last {ns : List Int} (h : Asc0 ns) (i : Nat) (hi : i < ns.length) : ns.getD i 0 ≤ lastOf ns := by
  by_cases e : i = ns.length - 1
  · rw [e]; exact Int.le_refl _
  · exact Int.le_of_lt (h.asc i (ns.length - 1) (by omega) (by omega))
theorem Asc0.two {ns : List Int} (h : Asc0 ns) (h1 : ns ≠ [0]) : 2 ≤ ns.length := by
  have := h.pos
  by_cases e : ns.length = 1
  · match ns, e with
    | [a], _ => have q := h.h0; simp at q; exact absurd (by rw [q]) h1
  · omega
theorem Asc0.one_le {ns : List Int} (h : Asc0 ns) (h1 : ns ≠ [0]) : 1 ≤ ns.getD 1 0 := by
  have := h.asc 0 1 (by omega) (h.two h1)
  rw [h.h0] at this
  omega
theorem runFrom_le : ∀ (k : Int) (ns : List Int), runFrom k ns ≤ ns.length
  | _, [] => Nat.le_refl _
  | k, n :: r => by
    rw [runFrom]
    split
    · have := runFrom_le (k + 1) r; simpa using this
    · simp
theorem runOf_two {ns : List Int} (h : Asc0 ns) (h1 : ns.getD 1 0 = 1) (h2 : 2 ≤ ns.length) : 2 ≤ runOf ns := by
  match ns, h2 with
  | a :: b :: r, _ =>
    have e0 := h.h0
    simp at e0 h1
    subst e0 h1
    simp [runOf, runFrom]
theorem getD_map {α β : Type} {f : α → β} {l : List α} {i : Nat} {a : α} {b : β} (h : i < l.length) : (l.map f).getD i b = f (l.getD i a) := by
  rw [List.getD_eq_getElem?_getD, List.getD_eq_getElem?_getD, List.getElem?_map, List.getElem?_eq_getElem h]; rfl
theorem wbGo_some {ns : List Int} {m : Nat} : ∀ {is : List Nat} {l : List Int}, wbGo ns m is = some l → l = is.map (fun i => ns.getD (i * m) 0 / m) ∧ ∀ i ∈ is, ns.getD (i * m) 0 % m = 0 ∧ ns.getD (i * m + m - 1) 0 = ns.getD (i * m) 0 + m - 1
  | [], l, h => by simp [wbGo] at h; subst h; simp
  | i :: is, l, h => by
    rw [wbGo] at h
    split at h
    · cases h
    · rename_i hc
      cases e : wbGo ns m is with
      | none => rw [e] at h; cases h
      | some l' =>
        rw [e] at h
        cases h
        obtain ⟨a, b⟩ := wbGo_some e
        refine ⟨by simp [a], fun j hj => ?_⟩
        rcases List.mem_cons.mp hj with q | q
        · subst q
          simp only [not_or, Decidable.not_not] at hc
          exact hc
        · exact b j q
theorem Asc0.without {ns l : List Int} (h : Asc0 ns) (h1 : ns ≠ [0]) (m : Nat) (hm : 2 ≤ m) (hl : withoutB ns m = some l) : Asc0 l ∧ lastOf l < lastOf ns ∧ 2 * lastOf l ≤ lastOf ns := by
  unfold withoutB at hl
  split at hl
  · cases hl
  · rename_i hd
    have hd : ns.length % m = 0 := by omega
    obtain ⟨e, hb⟩ := wbGo_some hl
    have hlen : m * (ns.length / m) = ns.length := Nat.mul_div_cancel' (Nat.dvd_of_mod_eq_zero hd)
    have hp := h.pos
    have hc : 1 ≤ ns.length / m := by
      by_cases z : ns.length / m = 0
      · rw [z] at hlen; omega
      · exact Nat.pos_of_ne_zero z
    have ll : l.length = ns.length / m := by rw [e]; simp
    have ix : ∀ i, i < ns.length / m → i * m < ns.length := fun i hi => by
      have : i * m < (ns.length / m) * m := Nat.mul_lt_mul_of_pos_right hi (by omega)
      rw [Nat.mul_comm (ns.length / m) m, hlen] at this
      exact this
    have gl : ∀ i, i < ns.length / m → l.getD i 0 = ns.getD (i * m) 0 / m := fun i hi => by
      rw [e, getD_map (a := 0) (by simpa using hi)]
      have : (List.range (ns.length / m)).getD i 0 = i := by rw [List.getD_eq_getElem?_getD, List.getElem?_range hi]; rfl
      rw [this]
    have mp : (0 : Int) < m := by omega
    have sq : ∀ i, i < ns.length / m → (m : Int) * (ns.getD (i * m) 0 / m) = ns.getD (i * m) 0 := fun i hi => Int.mul_ediv_cancel' (Int.dvd_of_emod_eq_zero (hb i (List.mem_range.mpr hi)).1)
    have lastl : lastOf l = ns.getD ((ns.length / m - 1) * m) 0 / m := by
      unfold lastOf
      rw [ll]
      exact gl _ (by omega)
    have big : lastOf l < lastOf ns ∧ 2 * lastOf l ≤ lastOf ns := by
      rw [lastl]
      have a1 := h.le_last _ (ix (ns.length / m - 1) (by omega))
      have a2 := h.nn _ (ix (ns.length / m - 1) (by omega))
      have a3 : 1 ≤ lastOf ns := Int.le_trans (h.one_le h1) (h.le_last 1 (h.two h1))
      have a4 := sq (ns.length / m - 1) (by omega)
      generalize ns.getD ((ns.length / m - 1) * m) 0 / m = q at *
      generalize ns.getD ((ns.length / m - 1) * m) 0 = x at *
      have : (2 : Int) * q ≤ m * q ∨ q < 0 := by
        by_cases z : q < 0
        · exact .inr z
        · exact .inl (Int.mul_le_mul_of_nonneg_right (by omega) (by omega))
      omega
    refine ⟨⟨fun q => ?_, ?_, fun i j hij hj => ?_, by have := h.big; omega, ?_⟩, big⟩
    · rw [q] at ll; simp at ll; omega
    · rw [gl 0 (by omega)]; simp only [Nat.zero_mul]; rw [h.h0]; simp
    · rw [ll] at hj
      rw [gl i (by omega), gl j hj]
      have a1 := h.asc (i * m) (j * m) (Nat.mul_lt_mul_of_pos_right hij (by omega)) (ix j hj)
      have a2 := sq i (by omega)
      have a3 := sq j hj
      rw [← a2, ← a3] at a1
      exact Int.lt_of_mul_lt_mul_left a1 (by omega)
    · rw [ll]
      exact Nat.le_trans (Nat.div_le_self ns.length m) h.len
theorem Asc0.divided {ns l : List Int} (h : Asc0 ns) (h1 : ns ≠ [0]) (hb : ns.getD 1 0 ≠ 1) (hl : dividedB ns (ns.getD 1 0) = some l) : Asc0 l ∧ lastOf l < lastOf ns ∧ 2 * lastOf l ≤ lastOf ns := by
  unfold dividedB at hl
  split at hl
  · rename_i ha
    have b1 := h.one_le h1
    generalize ns.getD 1 0 = b at *
    have e : l = ns.map (· / b) := (Option.some.inj hl).symm
    have ll : l.length = ns.length := by rw [e]; simp
    have gl : ∀ i, i < ns.length → l.getD i 0 = ns.getD i 0 / b := fun i hi => by rw [e, getD_map (a := 0) hi]
    have sq : ∀ i, i < ns.length → b * (ns.getD i 0 / b) = ns.getD i 0 := fun i hi => by
      have := List.all_eq_true.mp ha (ns.getD i 0) (by rw [List.getD_eq_getElem?_getD, List.getElem?_eq_getElem hi]; exact List.getElem_mem hi)
      exact Int.mul_ediv_cancel' (Int.dvd_of_emod_eq_zero (by simpa using this))
    have hp := h.pos
    have big : lastOf l < lastOf ns ∧ 2 * lastOf l ≤ lastOf ns := by
      have a1 : lastOf l = lastOf ns / b := by
        unfold lastOf; rw [ll]; exact gl _ (by omega)
      have a2 := sq (ns.length - 1) (by omega)
      have a3 : 1 ≤ lastOf ns := by
        have := h.two h1
        have := h.asc 0 (ns.length - 1) (by omega) (by omega)
        rw [h.h0] at this
        unfold lastOf
        omega
      rw [a1]
      unfold lastOf at a3 ⊢
      generalize ns.getD (ns.length - 1) 0 = x at *
      generalize x / b = q at *
      have : (2 : Int) * q ≤ b * q ∨ q < 0 := by
        by_cases z : q < 0
        · exact .inr z
        · exact .inl (Int.mul_le_mul_of_nonneg_right (by omega) (by omega))
      omega
    refine ⟨⟨fun q => ?_, ?_, fun i j hij hj => ?_, by have := h.big; omega, by rw [ll]; exact h.len⟩, big⟩
    · rw [q] at ll; simp at ll; omega
    · rw [gl 0 (by omega), h.h0]; simp
    · rw [ll] at hj
      rw [gl i (by omega), gl j hj]
      have a1 := h.asc i j hij hj
      rw [← sq i (by omega), ← sq j hj] at a1
      exact Int.lt_of_mul_lt_mul_left a1 (by omega)
  · cases hl
def sD (p : Int × Int) : D := .tup [.int p.1, .int p.2]
abbrev stepsD (l : List (Int × Int)) : D := .tup (l.map sD)
def optD (o : Option D) : D := o.getD .non
theorem Asc0.last1 {ns : List Int} (h : Asc0 ns) (h1 : ns ≠ [0]) : 1 ≤ lastOf ns := Int.le_trans (h.one_le h1) (h.le_last 1 (h.two h1))
theorem sD_eqb (a b : Int × Int) : D.eqb (sD a) (sD b) = decide (a = b) := by
  obtain ⟨a1, a2⟩ := a
  obtain ⟨b1, b2⟩ := b
  simp only [D.eqb, sD, D.py, D.pys, PyData.eqv, PyData.eqvAll, Bool.and_true, Prod.mk.injEq]
  exact Bool.eq_iff_iff.mpr (by simp)
def wf_run_of : WF := fun _ ds R => ∃ ns : List Int, ds = [tI ns] ∧ R (.d (.int (runOf ns)))
def wf_without_blocks : WF := fun _ ds R => ∃ (ns : List Int) (m : Nat), ds = [tI ns, .int m] ∧ 0 < m ∧ m < 1000000 ∧ ns.length ≤ 1000000 ∧ R (.d (optD ((withoutB ns m).map tI)))
def wf_divided : WF := fun _ ds R => ∃ (ns : List Int) (b : Int), ds = [tI ns, .int b] ∧ 0 < b ∧ b.natAbs.log2 < 9000 ∧ ns.length ≤ 1000000 ∧ R (.d (optD ((dividedB ns b).map tI)))
def wf_own_ladder_of : WF := fun _ ds R => ∃ ns : List Int, ds = [tI ns] ∧ Asc0 ns ∧ R (.d (optD ((own ns).map stepsD)))
/-- an ascending list, not too wide -/
def ListOk (ns : List Int) : Prop := isListB (tI ns) = true ∧ Asc0 (movedI ns)
def wf_own_ladder : WF := fun _ ds R => ∃ ns : List Int, ds = [tI ns] ∧ ListOk ns ∧ R (.d (optD ((own (movedI ns)).map stepsD)))
theorem optD_isN {α : Type} {f : α → D} (hf : ∀ a, (f a).isNon = fun R => R false) (o : Option α) {R : Bool → Prop} : (optD (o.map f)).isNon R = R (!o.isSome) := by
  cases o with
  | none => rfl
  | some a => show (f a).isNon R = _; rw [hf]; rfl
theorem stepsD_isN (a : List (Int × Int)) : (stepsD a).isNon = fun R => R false := rfl
def wf_joins : WF := fun _ ds R => ∃ ns : List Int, ds = [tI ns] ∧ ListOk ns ∧ R (.d (.bl (own (movedI ns)).isSome))
theorem foldl_mul (l : List (Int × Int)) : ∀ r : Int, l.foldl (fun a p => a * p.1) r = r * l.foldl (fun a p => a * p.1) 1 := by
  induction l with
  | nil => intro r; simp
  | cons p l ih => intro r; rw [List.foldl_cons, List.foldl_cons, ih, ih (1 * p.1), Int.one_mul, Int.mul_assoc]
def prodL (l : List (Int × Int)) : Int := l.foldl (fun a p => a * p.1) 1
def rungL : Int → List (Int × Int) → List Int
  | r, [] => [r]
  | r, p :: l => r :: rungL (r * p.1) l
theorem rungL_last (r : Int) (l : List (Int × Int)) : ∃ pre, rungL r l = pre ++ [r * prodL l] := by
  induction l generalizing r with
  | nil => exact ⟨[], by simp [rungL, prodL]⟩
  | cons p l ih =>
    obtain ⟨pre, e⟩ := ih (r * p.1)
    refine ⟨r :: pre, ?_⟩
    rw [rungL, e]
    have : prodL (p :: l) = p.1 * prodL l := by
      unfold prodL
      rw [List.foldl_cons, foldl_mul, Int.one_mul]
    rw [this, Int.mul_assoc]
    rfl
/-- what is multiplied stays small -/
def RungOk (l : List (Int × Int)) : Prop := (∀ p ∈ l, -(2 ^ 64) < p.1 ∧ p.1 < 2 ^ 64) ∧ l.length ≤ 100000
def wf_rungs_of : WF := fun _ ds R => ∃ l : List (Int × Int), ds = [stepsD l] ∧ RungOk l ∧ R (.d (tI (rungL 1 l)))
def wf_least_size : WF := fun _ ds R => ∃ ns : List Int, ds = [tI ns] ∧ ListOk ns ∧ (∀ l, own (movedI ns) = some l → RungOk l) ∧ R (.d (optD ((own (movedI ns)).map fun l => .int (prodL l))))

/-! ### the jar -/
def wf0_law_jar : WF := fun _ ds R => ∃ (ns : List Int) (k : Int), ds = [.rls (ns.map .int), .int k] ∧ (0 ≤ k ∧ k < 1000) ∧ ∀ x y : Int, (-(2 ^ 40) < y ∧ y < 2 ^ 40) → R (.own [.int x, .int y, .int 0])
def wf_law_jar : WF := fun _ ds R => ∃ (ns : List Int) (k : Int), ds = [.rls (ns.map .int), .int k] ∧ (0 ≤ k ∧ k < 1000) ∧ R (.d .jar)
def wf_law_dip : WF := fun _ ds R => ∃ n : Int, ds = [.jar, .int n] ∧ (0 < n ∧ n < 1073741824) ∧ ∀ r, 0 ≤ r → r < n → R (.d (.int r))
def wf_law_pick : WF := fun _ ds R => ∃ es : List D, ds = [.jar, .lst es] ∧ (0 < es.length ∧ es.length < 1000000) ∧ ∀ d ∈ es, R (.d d)

/-! ### own ladders told back: the list of an alternating ladder -/
/-- the list of a ladder, over a list of bases -/
def Lg : List (Int × Int) → List Int → List Int
  | [], b => b
  | p :: r, b => if p.2 = 0 then (Lg r b).flatMap fun q => (List.range p.1.toNat).map fun (i : Nat) => q * p.1 + (i : Nat) else (Lg r b).map fun q => q * p.1
abbrev Lf (s : List (Int × Int)) : List Int := Lg s [0]
/-- own and others in turn, an own one last -/
def Alt : List (Int × Int) → Prop
  | [] => True
  | [p] => p.2 = 0
  | p :: q :: r => (p.2 = 0 ∧ q.2 = 1 ∨ p.2 = 1 ∧ q.2 = 0) ∧ Alt (q :: r)
theorem Lg_append (s : List (Int × Int)) (a b : List Int) : Lg s (a ++ b) = Lg s a ++ Lg s b := by
  induction s with
  | nil => rfl
  | cons p r ih => simp only [Lg]; split <;> simp [ih]
theorem Lg_snoc (s t : List (Int × Int)) (b : List Int) : Lg (s ++ t) b = Lg s (Lg t b) := by
  induction s with
  | nil => rfl
  | cons p r ih => simp only [List.cons_append, Lg, ih]
theorem prodL_cons (p : Int × Int) (l : List (Int × Int)) : prodL (p :: l) = p.1 * prodL l := by
  unfold prodL
  rw [List.foldl_cons, foldl_mul, Int.one_mul]
theorem prodL_append (a b : List (Int × Int)) : prodL (a ++ b) = prodL a * prodL b := by
  induction a with
  | nil => simp [prodL]
  | cons p a ih => rw [List.cons_append, prodL_cons, prodL_cons, ih, Int.mul_assoc]
theorem Lg_one (s : List (Int × Int)) (q x : Int) : Lg s [q + x] = (Lg s [q]).map fun n => x * prodL s + n := by
  induction s with
  | nil => simp [Lg, prodL, Int.add_comm]
  | cons p r ih =>
    simp only [Lg, ih, prodL_cons]
    split
    · rw [List.flatMap_map, List.map_flatMap]
      congr 1
      funext n
      simp only [Function.comp_def, List.map_map]
      apply List.map_congr_left
      intro i _
      rw [Int.add_mul, Int.mul_assoc, Int.mul_comm (prodL r) p.1, Int.add_assoc]
    · rw [List.map_map, List.map_map]
      apply List.map_congr_left
      intro n _
      simp only [Function.comp_def]
      rw [Int.add_mul, Int.mul_assoc, Int.mul_comm (prodL r) p.1]
theorem Lg_range (s : List (Int × Int)) (w : Nat) : Lg s ((List.range w).map fun (i : Nat) => (i : Int)) = (List.range w).flatMap fun (a : Nat) => (Lf s).map fun n => (a : Int) * prodL s + n := by
  induction w with
  | zero =>
    simp
    induction s with
    | nil => rfl
    | cons p r ih => simp only [Lg]; split <;> simp [ih]
  | succ w ih =>
    rw [List.range_succ, List.map_append, Lg_append, ih, List.flatMap_append, List.map_singleton]
    have := Lg_one s 0 w
    rw [Int.zero_add] at this
    rw [this]
    simp
theorem Lf_own (s : List (Int × Int)) (w : Nat) : Lf (s ++ [((w : Int), 0)]) = (List.range w).flatMap fun (a : Nat) => (Lf s).map fun n => (a : Int) * prodL s + n := by
  rw [Lf, Lg_snoc, ← Lg_range]
  congr 1
  simp [Lg]
theorem Lf_other (s : List (Int × Int)) (g : Int) : Lf (s ++ [(g, 1)]) = Lf s := by
  rw [Lf, Lg_snoc]
  simp [Lg]
/-- ascending, and from 0 -/
def Asc (ns : List Int) : Prop := ns.Pairwise (· < ·)
theorem Lg_asc {s : List (Int × Int)} (h : ∀ p ∈ s, 1 ≤ p.1) {b : List Int} (hb : Asc b) : Asc (Lg s b) := by
  induction s with
  | nil => exact hb
  | cons p r ih =>
    have ih := ih fun q hq => h q (List.mem_cons_of_mem _ hq)
    have hp := h p (List.mem_cons_self ..)
    simp only [Lg]
    split
    · generalize Lg r b = l at ih
      clear h hb
      induction ih with
      | nil => exact .nil
      | cons h1 h2 ih =>
        rename_i a l
        rw [List.flatMap_cons, Asc, List.pairwise_append]
        refine ⟨?_, ih, ?_⟩
        · rw [List.pairwise_map]
          exact List.Pairwise.imp (fun hij => by omega) List.pairwise_lt_range
        · intro x hx y hy
          obtain ⟨i, hi, rfl⟩ := List.mem_map.mp hx
          obtain ⟨c, hc, hy⟩ := List.mem_flatMap.mp hy
          obtain ⟨j, hj, rfl⟩ := List.mem_map.mp hy
          have hi := List.mem_range.mp hi
          have hac := h1 c hc
          have : (a + 1) * p.1 ≤ c * p.1 := Int.mul_le_mul_of_nonneg_right (by omega) (by omega)
          rw [Int.add_mul, Int.one_mul] at this
          omega
    · rw [Asc, List.pairwise_map]
      exact List.Pairwise.imp (fun hij => Int.mul_lt_mul_of_pos_right hij (by omega)) ih
theorem Lg_bound {s : List (Int × Int)} (h : ∀ p ∈ s, 1 ≤ p.1) : ∀ n ∈ Lf s, 0 ≤ n ∧ n < prodL s := by
  induction s with
  | nil => intro n hn; simp [Lg, prodL] at hn ⊢; omega
  | cons p r ih =>
    have ih := ih fun q hq => h q (List.mem_cons_of_mem _ hq)
    have hp := h p (List.mem_cons_self ..)
    intro n hn
    rw [prodL_cons]
    simp only [Lf, Lg] at hn
    split at hn
    · obtain ⟨q, hq, hn⟩ := List.mem_flatMap.mp hn
      obtain ⟨i, hi, rfl⟩ := List.mem_map.mp hn
      have hi := List.mem_range.mp hi
      obtain ⟨a, b⟩ := ih q hq
      have a' : 0 ≤ q * p.1 := Int.mul_nonneg a (by omega)
      have : (q + 1) * p.1 ≤ prodL r * p.1 := Int.mul_le_mul_of_nonneg_right (by omega) (by omega)
      rw [Int.add_mul, Int.one_mul, Int.mul_comm (prodL r)] at this
      omega
    · obtain ⟨q, hq, rfl⟩ := List.mem_map.mp hn
      obtain ⟨a, b⟩ := ih q hq
      have a' : 0 ≤ q * p.1 := Int.mul_nonneg a (by omega)
      have : (q + 1) * p.1 ≤ prodL r * p.1 := Int.mul_le_mul_of_nonneg_right (by omega) (by omega)
      rw [Int.add_mul, Int.one_mul, Int.mul_comm (prodL r)] at this
      omega
theorem Lf_head {s : List (Int × Int)} (h : ∀ p ∈ s, 1 ≤ p.1) : ∃ l, Lf s = 0 :: l := by
  induction s with
  | nil => exact ⟨[], rfl⟩
  | cons p r ih =>
    obtain ⟨l, e⟩ := ih fun q hq => h q (List.mem_cons_of_mem _ hq)
    have hp := h p (List.mem_cons_self ..)
    simp only [Lf] at e
    simp only [Lf, Lg, e]
    split
    · obtain ⟨m, hm⟩ : ∃ m, p.1.toNat = m + 1 := ⟨p.1.toNat - 1, by omega⟩
      rw [List.flatMap_cons, hm, List.range_succ_eq_map, List.map_cons]
      exact ⟨_, by simp; rfl⟩
    · rw [List.map_cons]
      exact ⟨_, by simp; rfl⟩
theorem blk_get (L : List Int) (w : Nat) (i j : Nat) (hi : i < L.length) (hj : j < w) : (L.flatMap fun q => (List.range w).map fun (i : Nat) => q * (w : Int) + (i : Nat)).getD (i * w + j) 0 = L.getD i 0 * w + j := by
  induction L generalizing i with
  | nil => exact absurd hi (by simp)
  | cons q L ih =>
    rw [List.flatMap_cons]
    cases i with
    | zero =>
      rw [List.getD_eq_getElem?_getD, List.getElem?_append_left (by simpa using hj)]
      simp [hj]
    | succ i =>
      have := ih i (by simpa using hi)
      have e : (i + 1) * w + j = w + (i * w + j) := by rw [Nat.add_mul, Nat.one_mul]; omega
      rw [e, List.getD_eq_getElem?_getD, List.getElem?_append_right (by simp)]
      rw [List.getD_eq_getElem?_getD] at this
      simpa using this
theorem blk_len (L : List Int) (w : Nat) : (L.flatMap fun q => (List.range w).map fun (i : Nat) => q * (w : Int) + (i : Nat)).length = L.length * w := by
  induction L with
  | nil => simp
  | cons q L ih => rw [List.flatMap_cons, List.length_append, ih, List.length_cons, Nat.add_mul]; simp [Nat.add_comm]
theorem wbGo_all {ns : List Int} {m : Nat} : ∀ {is : List Nat}, (∀ i ∈ is, ns.getD (i * m) 0 % m = 0 ∧ ns.getD (i * m + m - 1) 0 = ns.getD (i * m) 0 + m - 1) → wbGo ns m is = some (is.map fun i => ns.getD (i * m) 0 / m)
  | [], _ => rfl
  | i :: is, h => by
    have h1 := h i (List.mem_cons_self ..)
    rw [wbGo, if_neg (by simp only [not_or, Decidable.not_not]; exact h1), wbGo_all fun j hj => h j (List.mem_cons_of_mem _ hj)]
    rfl
theorem withoutB_blk (L : List Int) (w : Nat) (hw : 1 ≤ w) : withoutB (L.flatMap fun q => (List.range w).map fun (i : Nat) => q * (w : Int) + (i : Nat)) w = some L := by
  have g := blk_get L w
  have hl := blk_len L w
  generalize (L.flatMap fun q => (List.range w).map fun (i : Nat) => q * (w : Int) + (i : Nat)) = ns at *
  have hd : ns.length / w = L.length := by rw [hl]; exact Nat.mul_div_cancel _ (by omega)
  have g0 : ∀ i, i < L.length → ns.getD (i * w) 0 = L.getD i 0 * w := fun i hi => by
    have := g i 0 hi (by omega)
    simpa using this
  unfold withoutB
  rw [if_neg (by rw [hl]; simp), hd, wbGo_all]
  · congr 1
    apply List.ext_getElem
    · simp
    · intro i h1 h2
      rw [List.getElem_map, List.getElem_range, g0 i h2, Int.mul_ediv_cancel _ (by omega), List.getD_eq_getElem?_getD, List.getElem?_eq_getElem h2]
      rfl
  · intro i hi
    have hi := List.mem_range.mp hi
    have g1 := g i (w - 1) hi (by omega)
    have e : i * w + (w - 1) = i * w + w - 1 := by omega
    rw [e] at g1
    rw [g0 i hi, g1]
    exact ⟨Int.mul_emod_left _ _, by omega⟩
theorem runFrom_range (w : Nat) : ∀ (k : Int) (tail : List Int), runFrom k (((List.range w).map fun (i : Nat) => k + (i : Nat)) ++ tail) = w + runFrom (k + w) tail := by
  induction w with
  | zero => intro k tail; simp
  | succ w ih =>
    intro k tail
    rw [List.range_succ_eq_map, List.map_cons, List.cons_append, runFrom, if_pos (by simp)]
    have := ih (k + 1) tail
    rw [List.map_map]
    have e : ((fun (i : Nat) => k + (i : Int)) ∘ Nat.succ) = fun (i : Nat) => k + 1 + (i : Int) := by
      funext i
      simp only [Function.comp_def]
      push_cast
      omega
    rw [e, this]
    have e2 : k + 1 + (w : Int) = k + ((w + 1 : Nat) : Int) := by push_cast; omega
    rw [e2]
    omega
theorem Alt.tail {p : Int × Int} {r : List (Int × Int)} (h : Alt (p :: r)) : Alt r := by
  cases r with
  | nil => trivial
  | cons q r => exact h.2
theorem own_Lf : ∀ s : List (Int × Int), Alt s → (∀ p ∈ s, 2 ≤ p.1) → ∀ f : Nat, Asc0 (Lf s) → lastOf (Lf s) < f → ownF f (Lf s) = some s
  | [], _, _, f, _, hf => by
    cases f with
    | zero => exact absurd hf (by decide)
    | succ f => simp [Lf, Lg, ownF]
  | p :: r, ha, hp, f, hA, hf => by
    have hp1 : ∀ q ∈ r, 1 ≤ q.1 := fun q hq => by have := hp q (List.mem_cons_of_mem _ hq); omega
    have hp0 := hp p (List.mem_cons_self ..)
    obtain ⟨l, e⟩ := Lf_head hp1
    have hb := Lg_bound hp1
    have hasc := Lg_asc hp1 (b := [0]) (by simp [Asc])
    cases f with
    | zero => have := hA.nn ((Lf (p :: r)).length - 1) (by have := hA.pos; omega); unfold lastOf at hf; omega
    | succ f =>
    by_cases hk : p.2 = 0
    · obtain ⟨w, hw⟩ : ∃ w : Nat, p.1 = w := ⟨p.1.toNat, by omega⟩
      have eL : Lf (p :: r) = (Lf r).flatMap fun q => (List.range w).map fun (i : Nat) => q * (w : Int) + (i : Nat) := by
        simp only [Lf, Lg, if_pos hk, hw, Int.toNat_natCast]
      have eT : Lf (p :: r) = ((List.range w).map fun (i : Nat) => (0 : Int) + (i : Nat)) ++ l.flatMap fun q => (List.range w).map fun (i : Nat) => q * (w : Int) + (i : Nat) := by
        rw [eL, e, List.flatMap_cons]
        simp
      have hrun : runOf (Lf (p :: r)) = w := by
        unfold runOf
        rw [eT, runFrom_range]
        have : runFrom (0 + w) (l.flatMap fun q => (List.range w).map fun (i : Nat) => q * (w : Int) + (i : Nat)) = 0 := by
          cases l with
          | nil => rfl
          | cons x l =>
            have hx2 : 2 ≤ x := by
              cases r with
              | nil => simp [Lf, Lg] at e
              | cons q r =>
                have hq : q.2 = 1 := by
                  rcases ha.1 with h | h
                  · exact h.2
                  · omega
                have hq2 := hp q (by simp)
                have hxm : x ∈ Lf (q :: r) := by rw [e]; simp
                have hx0 : 0 < x := by
                  rw [show Lg (q :: r) [0] = 0 :: x :: l from e] at hasc
                  have := (List.pairwise_cons.mp hasc).1 x (by simp)
                  omega
                simp only [Lf, Lg] at hxm
                rw [if_neg (by omega)] at hxm
                obtain ⟨y, hy, rfl⟩ := List.mem_map.mp hxm
                have hy0 : 0 < y := by
                  by_cases z : y ≤ 0
                  · have : y * q.1 ≤ 0 := Int.mul_nonpos_of_nonpos_of_nonneg z (by omega)
                    omega
                  · omega
                have : y * 2 ≤ y * q.1 := Int.mul_le_mul_of_nonneg_left hq2 (by omega)
                omega
            have : (2 : Int) * w ≤ x * w := Int.mul_le_mul_of_nonneg_right hx2 (by omega)
            have hw0 : 0 < w := by omega
            clear hA hf eT eL hw
            obtain ⟨m, rfl⟩ : ∃ m, w = m + 1 := ⟨w - 1, by omega⟩
            rw [List.flatMap_cons, List.range_succ_eq_map, List.map_cons, List.cons_append, runFrom, if_neg]
            intro hc
            generalize x * ((m + 1 : Nat) : Int) = y at *
            omega
        rw [this]
        rfl
      have hne : Lf (p :: r) ≠ [0] := by
        rw [eT]
        obtain ⟨m, hm⟩ : ∃ m, w = m + 2 := ⟨w - 2, by omega⟩
        rw [hm, List.range_succ_eq_map, List.range_succ_eq_map]
        simp
      have hg1 : (Lf (p :: r)).getD 1 0 = 1 := by
        rw [eT]
        obtain ⟨m, hm⟩ : ∃ m, w = m + 2 := ⟨w - 2, by omega⟩
        rw [hm, List.range_succ_eq_map, List.range_succ_eq_map]
        simp
      have hwo : withoutB (Lf (p :: r)) w = some (Lf r) := by rw [eL]; exact withoutB_blk _ _ (by omega)
      obtain ⟨a1, a2, a3⟩ := hA.without hne w (by omega) hwo
      rw [ownF, if_neg hne, if_pos hg1, hrun, hwo, Option.bind_some, own_Lf r ha.tail (fun q hq => hp q (List.mem_cons_of_mem _ hq)) f a1 (by omega)]
      obtain ⟨p1, p2⟩ := p
      simp at hk hw
      simp [hk, hw]
    · cases r with
      | nil => exact absurd ha hk
      | cons q r =>
        have hq : p.2 = 1 ∧ q.2 = 0 := by
          rcases ha.1 with h | h
          · exact absurd h.1 hk
          · exact h
        have hq2 := hp q (by simp)
        have e1 : ∃ l, Lf (q :: r) = 0 :: 1 :: l := by
          obtain ⟨l', e'⟩ := Lf_head fun q hq => hp1 q (List.mem_cons_of_mem _ hq)
          obtain ⟨w, hw⟩ : ∃ w : Nat, q.1 = ((w + 2 : Nat) : Int) := ⟨q.1.toNat - 2, by omega⟩
          simp only [Lf, Lg, if_pos hq.2]
          rw [show Lg r [0] = 0 :: l' from e', hw, Int.toNat_natCast, List.flatMap_cons, List.range_succ_eq_map, List.range_succ_eq_map]
          exact ⟨_, by simp; rfl⟩
        obtain ⟨l1, e1⟩ := e1
        have eL : Lf (p :: q :: r) = (Lf (q :: r)).map fun x => x * p.1 := by simp only [Lf]; rw [Lg, if_neg hk]
        have hg1 : (Lf (p :: q :: r)).getD 1 0 = p.1 := by rw [eL, e1]; simp
        have hne : Lf (p :: q :: r) ≠ [0] := by rw [eL, e1]; simp
        have hdv : dividedB (Lf (p :: q :: r)) p.1 = some (Lf (q :: r)) := by
          unfold dividedB
          rw [eL, if_pos]
          · rw [List.map_map]
            congr 1
            rw [← List.map_id (Lf (q :: r)), List.map_map]
            apply List.map_congr_left
            intro x _
            simp only [Function.comp_def, id]
            exact Int.mul_ediv_cancel _ (by omega)
          · rw [List.all_map, List.all_eq_true]
            intro x _
            simp [Int.mul_emod_left]
        obtain ⟨a1, a2, a3⟩ := hA.divided hne (by rw [hg1]; omega) (by rw [hg1]; exact hdv)
        rw [ownF, if_neg hne, if_neg (by rw [hg1]; omega), hg1, hdv, Option.bind_some, own_Lf (q :: r) ha.tail (fun q hq => hp q (List.mem_cons_of_mem _ hq)) f a1 (by omega)]
        obtain ⟨p1, p2⟩ := p
        simp at hq
        simp [hq.1]

structure Good (s : List (Int × Int)) : Prop where
  alt : Alt s
  two : ∀ p ∈ s, 2 ≤ p.1
  four : ∀ p ∈ s, p.1 ≤ 4
  len : (Lf s).length ≤ 40
  many : s.length ≤ 80
  kind : ∀ p ∈ s, p.2 = 0 ∨ p.2 = 1
theorem Good.one {s : List (Int × Int)} (h : Good s) : ∀ p ∈ s, 1 ≤ p.1 := fun p hp => by have := h.two p hp; omega
theorem prod_le {s : List (Int × Int)} (h2 : ∀ p ∈ s, 2 ≤ p.1) (h4 : ∀ p ∈ s, p.1 ≤ 4) : 1 ≤ prodL s ∧ prodL s ≤ 4 ^ s.length := by
  induction s with
  | nil => simp [prodL]
  | cons p s ih =>
    obtain ⟨a, b⟩ := ih (fun q hq => h2 q (List.mem_cons_of_mem _ hq)) (fun q hq => h4 q (List.mem_cons_of_mem _ hq))
    have c := h2 p (List.mem_cons_self ..)
    have d := h4 p (List.mem_cons_self ..)
    rw [prodL_cons, List.length_cons, Int.pow_succ]
    have e : 1 * 1 ≤ p.1 * prodL s := Int.mul_le_mul (by omega) a (by omega) (by omega)
    have f : p.1 * prodL s ≤ 4 * 4 ^ s.length := Int.mul_le_mul d b (by omega) (by omega)
    omega
theorem Good.prod {s : List (Int × Int)} (h : Good s) : 1 ≤ prodL s ∧ prodL s < 2 ^ 170 := by
  obtain ⟨a, b⟩ := prod_le h.two h.four
  refine ⟨a, Int.lt_of_le_of_lt b ?_⟩
  have : (4 : Int) ^ s.length ≤ 4 ^ 80 := by
    have e : ((4 ^ s.length : Nat) : Int) ≤ ((4 ^ 80 : Nat) : Int) := Int.ofNat_le.mpr (Nat.pow_le_pow_right (by decide) h.many)
    rw [Int.natCast_pow, Int.natCast_pow] at e
    exact e
  exact Int.lt_of_le_of_lt this (by decide +kernel)
theorem asc_get {ns : List Int} (h : Asc ns) (i j : Nat) (hij : i < j) (hj : j < ns.length) : ns.getD i 0 < ns.getD j 0 := by
  have := List.pairwise_iff_getElem.mp h i j (by omega) hj hij
  rw [List.getD_eq_getElem?_getD, List.getD_eq_getElem?_getD, List.getElem?_eq_getElem hj, List.getElem?_eq_getElem (by omega : i < ns.length)]
  exact this
theorem Good.asc0 {s : List (Int × Int)} (h : Good s) : Asc0 (Lf s) := by
  obtain ⟨l, e⟩ := Lf_head h.one
  have a := Lg_asc h.one (b := [0]) (by simp [Asc])
  refine ⟨by rw [e]; simp, by rw [e]; rfl, fun i j hij hj => asc_get a i j hij hj, ?_, h.len⟩
  have hl : (Lf s).length - 1 < (Lf s).length := by rw [e]; simp
  have := Lg_bound h.one (lastOf (Lf s)) (by unfold lastOf; rw [List.getD_eq_getElem?_getD, List.getElem?_eq_getElem hl]; exact List.getElem_mem hl)
  have := h.prod.2
  exact Int.lt_trans (Int.lt_trans (by omega) this) (by unfold capI; decide +kernel)
theorem Good.own {s : List (Int × Int)} (h : Good s) : own (Lf s) = some s :=
  own_Lf s h.alt h.two _ h.asc0 (by have := h.asc0.nn ((Lf s).length - 1) (by have := h.asc0.pos; omega); unfold lastOf; omega)
theorem ascD_map {ns : List Int} (h : Asc ns) : ascD (ns.map .int) = true := by
  induction h with
  | nil => rfl
  | cons h1 h2 ih =>
    rename_i a l
    cases l with
    | nil => rfl
    | cons b l =>
      rw [List.map_cons, List.map_cons, ascD]
      rw [List.map_cons] at ih
      rw [ih, Bool.and_true]
      exact decide_eq_true (h1 b (List.mem_cons_self ..))
theorem isList_map {ns : List Int} (h : Asc ns) (h1 : 1 ≤ ns.length) (h2 : ns.length ≤ 40) : isListB (tI ns) = true := by
  unfold isListB
  simp only [List.length_map, h1, h2, ascD_map h, decide_true, Bool.and_true, Bool.true_and]
  rw [List.all_map, List.all_eq_true]
  intro _ _
  rfl
/-- moved by a number -/
theorem Good.moved {s : List (Int × Int)} (h : Good s) (b : Int) : movedI ((Lf s).map (· + b)) = Lf s ∧ ListOk ((Lf s).map (· + b)) := by
  obtain ⟨l, e⟩ := Lf_head h.one
  have m : movedI ((Lf s).map (· + b)) = Lf s := by
    unfold movedI
    have : ((Lf s).map (· + b)).headD 0 = b := by rw [e]; simp
    rw [this, List.map_map]
    conv => rhs; rw [← List.map_id (Lf s)]
    apply List.map_congr_left
    intro x _
    simp only [Function.comp_def, id]
    omega
  refine ⟨m, isList_map ?_ (by rw [e]; simp) (by simpa using h.len), by rw [m]; exact h.asc0⟩
  have a := Lg_asc h.one (b := [0]) (by simp [Asc])
  rw [Asc, List.pairwise_map]
  exact List.Pairwise.imp (fun hij => by omega) a
theorem Good.rung {s : List (Int × Int)} (h : Good s) : RungOk s :=
  ⟨fun p hp => by have := h.two p hp; have := h.four p hp; omega, by have := h.many; omega⟩
theorem Good.nice {s : List (Int × Int)} (h : Good s) {n : Nat} : (stepsD s).nice (n + 2) = true := nice_tup fun d hd => by
  obtain ⟨p, hp, rfl⟩ := List.mem_map.mp hd
  have := h.two p hp
  have := h.four p hp
  refine nice_tup fun d hd => ?_
  rcases List.mem_cons.mp hd with rfl | hd
  · exact nice_int (by omega)
  · rcases List.mem_cons.mp hd with rfl | hd
    · exact nice_int (by have := h.kind p hp; omega)
    · cases hd
theorem Alt.grow {g w : Int} : ∀ {s : List (Int × Int)}, Alt s → Alt (s ++ [(g, 1)] ++ [(w, 0)])
  | [], _ => ⟨.inr ⟨rfl, rfl⟩, rfl⟩
  | [p], h => ⟨.inl ⟨h, rfl⟩, .inr ⟨rfl, rfl⟩, rfl⟩
  | p :: q :: r, h => ⟨h.1, Alt.grow (s := q :: r) h.2⟩
theorem own_len (s : List (Int × Int)) (w : Nat) : (Lf (s ++ [((w : Int), 0)])).length = w * (Lf s).length := by
  rw [Lf_own, List.length_flatMap]
  simp only [List.length_map]
  induction w with
  | zero => simp
  | succ w ih => rw [List.range_succ, List.map_append, List.sum_append, ih, Nat.add_mul]; simp
theorem Good.grow {s : List (Int × Int)} (h : Good s) {g : Int} {w : Nat} (hg : 2 ≤ g ∧ g ≤ 4) (hw : 2 ≤ w ∧ w ≤ 4) (hl : w * (Lf s).length ≤ 40) (hs : s.length ≤ 78) : Good (s ++ [(g, 1)] ++ [((w : Int), 0)]) := by
  have mem : ∀ p ∈ s ++ [(g, 1)] ++ [((w : Int), (0 : Int))], p ∈ s ∨ p = (g, 1) ∨ p = ((w : Int), 0) := fun p hp => by
    simpa using hp
  refine ⟨h.alt.grow, fun p hp => ?_, fun p hp => ?_, ?_, by simp; omega, fun p hp => ?_⟩
  · rcases mem p hp with q | rfl | rfl
    · exact h.two p q
    · exact hg.1
    · show (2 : Int) ≤ w; omega
  · rcases mem p hp with q | rfl | rfl
    · exact h.four p q
    · exact hg.2
    · show (w : Int) ≤ 4; omega
  · rw [own_len, Lf_other]; exact hl
  · rcases mem p hp with q | rfl | rfl
    · exact h.kind p q
    · exact .inr rfl
    · exact .inl rfl
theorem Good.first {w : Nat} (hw : 2 ≤ w ∧ w ≤ 4) : Good ([] ++ [((w : Int), 0)]) := by
  have mem : ∀ p ∈ [] ++ [((w : Int), (0 : Int))], p = ((w : Int), 0) := fun p hp => by simpa using hp
  refine ⟨rfl, fun p hp => ?_, fun p hp => ?_, ?_, by simp, fun p hp => ?_⟩
  · rw [mem p hp]; show (2 : Int) ≤ w; omega
  · rw [mem p hp]; show (w : Int) ≤ 4; omega
  · rw [own_len]; simp [Lf, Lg]; omega
  · rw [mem p hp]; exact .inl rfl
theorem stepsL_okEq {s : List (Int × Int)} (h : Good s) : (D.lst (s.map sD)).nice 2 = true := by
  have := h.nice (n := 0)
  simpa only [D.nice] using this
def wf_law_alternate : WF := fun _ ds R => ∃ m : Int, ds = [.jar, .int m] ∧ (0 ≤ m ∧ m ≤ 39) ∧ ∀ s, Good s → R (.d (.tup [tI (Lf s), stepsD s]))
def wf_law_right : WF := fun _ ds R => ds = [.jar] ∧ R (.d (.bl true))
def wf_law : WF := fun _ ds R => ∃ ns : List Int, ds = [.rls (ns.map .int)] ∧ R (.d (.bl true))

/-- is_integer(value); slots: 0 value -/
def b_is_integer : WS := (wRet (wAndV (wCallB fIsi (wCons (wVar 0) (wCons (wC (.v (.ty "int"))) wNil))) (wNotV (wCallB fIsi (wCons (wVar 0) (wCons (wC (.v (.ty "bool"))) wNil))))))
/-- is_list(value); slots: 0 value, 1 number, 2 k -/
def b_is_list : WS := (wSeq (wIf (wOr (wNot (wB (wCallB fIsi (wCons (wVar 0) (wCons (wC (.v (.ty "tuple"))) wNil))))) (wNot (wB (wChain fLe fLe (wC (.int 1)) (wCallB fLen (wCons (wVar 0) wNil)) (wC (.int 40)))))) (wRet (wC (.bl false))) wNext)
  (wSeq (wIf (wNot (wB (wCallB fAll (wCons (wLc (wItems (wVar 0)) (fName 1) wYes (wCall 1 wf_is_integer (wCons (wVar 1) wNil)) [1]) wNil)))) (wRet (wC (.bl false))) wNext)
  (wRet (wCallB fAll (wCons (wLc (wRng rg1 (wCons (wBin fSub (wCallB fLen (wCons (wVar 0) wNil)) (wC (.int 1))) wNil)) (fName 2) wYes (wBin fLt (wIxV 0 (wVar 2)) (wIxV 0 (wBin fAdd (wVar 2) (wC (.int 1))))) [2]) wNil)))))
/-- check_list(value); slots: 0 value -/
def b_check_list : WS := (wIf (wNot (wB (wCall 1 wf_is_list (wCons (wVar 0) wNil)))) wNever wNext)
/-- moved(numbers); slots: 0 numbers, 1 number -/
def b_moved : WS := (wRet (wCallB fTuple (wCons (wLc (wItems (wVar 0)) (fName 1) wYes (wBin fSub (wVar 1) (wIxV 0 (wC (.int 0)))) [1]) wNil)))
/-- run_of(numbers); slots: 0 numbers, 1 found -/
def b_run_of : WS := (wSeq (wSet 1 (wC (.int 0)))
  (wSeq (wWhile (wAnd (wB (wBin fLt (wVar 1) (wCallB fLen (wCons (wVar 0) wNil)))) (wB (wBin fEq (wIxV 0 (wVar 1)) (wVar 1)))) (wSet 1 (wBin fAdd (wVar 1) (wC (.int 1)))))
  (wRet (wVar 1))))
/-- without_blocks(numbers, many); slots: 0 numbers, 1 many, 2 found, 3 at -/
def b_without_blocks : WS := (wSeq (wIf (wB (wBin fNe (wBin fMod (wCallB fLen (wCons (wVar 0) wNil)) (wVar 1)) (wC (.int 0)))) (wRet (wC .non)) wNext)
  (wSeq (wSet 2 (wLst wNil))
  (wSeq (wFor (wRng rg3 (wCons (wC (.int 0)) (wCons (wCallB fLen (wCons (wVar 0) wNil)) (wCons (wVar 1) wNil)))) (fName 3) (wSeq (wIf (wOr (wB (wBin fNe (wBin fMod (wIxV 0 (wVar 3)) (wVar 1)) (wC (.int 0)))) (wB (wBin fNe (wIxV 0 (wBin fSub (wBin fAdd (wVar 3) (wVar 1)) (wC (.int 1)))) (wBin fSub (wBin fAdd (wIxV 0 (wVar 3)) (wVar 1)) (wC (.int 1)))))) (wRet (wC .non)) wNext)
  (wApp 2 (wBin fDiv (wIxV 0 (wVar 3)) (wVar 1)))))
  (wRet (wCallB fTuple (wCons (wVar 2) wNil))))))
/-- divided(numbers, many); slots: 0 numbers, 1 many, 2 number -/
def b_divided : WS := (wSeq (wIf (wNot (wB (wCallB fAll (wCons (wLc (wItems (wVar 0)) (fName 2) wYes (wBin fEq (wBin fMod (wVar 2) (wVar 1)) (wC (.int 0))) [2]) wNil)))) (wRet (wC .non)) wNext)
  (wRet (wCallB fTuple (wCons (wLc (wItems (wVar 0)) (fName 2) wYes (wBin fDiv (wVar 2) (wVar 1)) [2]) wNil))))
/-- rungs_of(steps); slots: 0 steps, 1 found, 2 step -/
def b_rungs_of : WS := (wSeq (wSet 1 (wLst (wCons (wC (.int 1)) wNil)))
  (wSeq (wFor (wItems (wVar 0)) (fName 2) (wApp 1 (wBin fMul (wIxV 1 (wUn fNeg (wC (.int 1)))) (wIxV 2 (wC (.int 0))))))
  (wRet (wCallB fTuple (wCons (wVar 1) wNil)))))
/-- own_ladder_of(numbers); slots: 0 numbers, 1 found, 2 left -/
def b_own_ladder_of : WS := (wSeq (wPar 1 2 (wLst wNil) (wVar 0))
  (wSeq (wWhile (wAnd (wB (wUn fIsn (wVar 2))) (wB (wBin fNe (wVar 2) (wTup (wCons (wC (.int 0)) wNil))))) (wIf (wB (wBin fEq (wIxV 2 (wC (.int 1))) (wC (.int 1)))) (wSeq (wApp 1 (wTup (wCons (wCall 1 wf_run_of (wCons (wVar 2) wNil)) (wCons (wC (.int 0)) wNil))))
  (wSet 2 (wCall 2 wf_without_blocks (wCons (wVar 2) (wCons (wBin fIx (wIxV 1 (wUn fNeg (wC (.int 1)))) (wC (.int 0))) wNil))))) (wSeq (wApp 1 (wTup (wCons (wIxV 2 (wC (.int 1))) (wCons (wC (.int 1)) wNil))))
  (wSet 2 (wCall 2 wf_divided (wCons (wVar 2) (wCons (wIxV 2 (wC (.int 1))) wNil)))))))
  (wRet (wIfE (wB (wUn fIs (wVar 2))) (wC .non) (wCallB fTuple (wCons (wVar 1) wNil))))))
/-- own_ladder(numbers); slots: 0 numbers -/
def b_own_ladder : WS := (wSeq (wDrop (wCall 1 wf_check_list (wCons (wVar 0) wNil)))
  (wRet (wCall 1 wf_own_ladder_of (wCons (wCall 1 wf_moved (wCons (wVar 0) wNil)) wNil))))
/-- joins(numbers); slots: 0 numbers -/
def b_joins : WS := (wRet (wUn fIsn (wCall 1 wf_own_ladder (wCons (wVar 0) wNil))))
/-- least_size(numbers); slots: 0 numbers, 1 steps -/
def b_least_size : WS := (wSeq (wSet 1 (wCall 1 wf_own_ladder (wCons (wVar 0) wNil)))
  (wRet (wIfE (wB (wUn fIs (wVar 1))) (wC .non) (wBin fIx (wCall 1 wf_rungs_of (wCons (wVar 1) wNil)) (wUn fNeg (wC (.int 1)))))))
/-- law_jar(law_script, law_k); slots: 0 law_script, 1 law_k, 2 law_churned, 3 law_cell, 4 law_own, 5 law_digits -/
def b_law_jar : WS := (wSeq (wSet 2 (wBin fAdd (wBin fMul (wBin fMul (wC (.int 7369)) (wBin fAdd (wVar 1) (wC (.int 5)))) (wBin fAdd (wVar 1) (wC (.int 2)))) (wBin fMul (wC (.int 29)) (wCallB fLen (wCons (wVar 0) wNil)))))
  (wSeq (wFor (wItems (wSl (wVar 0) wNoP (wPart (wC (.int 4))))) (fName 3) (wSet 2 (wBin fMod (wCallB fInt (wCons (wBin fAdd (wBin fMul (wVar 2) (wC (.int 733))) (wVar 3)) wNil)) (wC (.int 1000000009)))))
  (wSeq (wSet 4 (wIfE (wB (wBin fLt (wVar 1) (wCallB fLen (wCons (wVar 0) wNil)))) (wIxV 0 (wVar 1)) (wC (.int 0))))
  (wSeq (wSet 5 (wIfE (wOr (wB (wBin fLt (wVar 4) (wC (.int 0)))) (wB (wBin fGe (wVar 4) (wBin fPow (wC (.int 10)) (wC (.int 18)))))) (wCallB fAbs (wCons (wVar 4) wNil)) (wC (.int 0))))
  (wRet (wLst (wCons (wVar 5) (wCons (wBin fMod (wCallB fInt (wCons (wBin fAdd (wBin fAdd (wBin fMul (wVar 2) (wC (.int 8117))) (wBin fMul (wVar 4) (wC (.int 64013)))) (wBin fMul (wC (.int 105019)) (wBin fAdd (wVar 1) (wC (.int 1))))) wNil)) (wC (.int 2147483563))) (wCons (wC (.int 0)) wNil)))))))))
/-- law_dip(law_jar_here, law_wide); slots: 0 law_jar_here, 1 law_wide, 2 law_digit, 3 law_seed -/
def b_law_dip : WS := (wSeq (wSetIx 0 (wC (.int 2)) (wBin fAdd (wIxV 0 (wC (.int 2))) (wC (.int 1))))
  (wSeq (wIf (wB (wBin fGt (wIxV 0 (wC (.int 0))) (wC (.int 0)))) (wSeq (wSet 2 (wBin fMod (wCallB fInt (wCons (wIxV 0 (wC (.int 0))) wNil)) (wVar 1)))
  (wSeq (wSetIx 0 (wC (.int 0)) (wBin fDiv (wCallB fInt (wCons (wIxV 0 (wC (.int 0))) wNil)) (wVar 1)))
  (wRet (wVar 2)))) wNext)
  (wSeq (wSet 3 (wCallB fInt (wCons (wIxV 0 (wC (.int 1))) wNil)))
  (wSeq (wSetIx 0 (wC (.int 1)) (wBin fMod (wCallB fInt (wCons (wBin fAdd (wBin fAdd (wBin fMul (wVar 3) (wC (.int 40692))) (wBin fMul (wIxV 0 (wC (.int 2))) (wC (.int 52021)))) (wC (.int 31))) wNil)) (wC (.int 2147483399))))
  (wRet (wBin fMod (wCallB fInt (wCons (wBin fDiv (wIxV 0 (wC (.int 1))) (wC (.int 2048))) wNil)) (wVar 1)))))))
/-- law_pick(law_jar_here, law_menu); slots: 0 law_jar_here, 1 law_menu, 2 law_at -/
def b_law_pick : WS := (wSeq (wSet 2 (wCall 2 wf_law_dip (wCons (wVar 0) (wCons (wCallB fLen (wCons (wVar 1) wNil)) wNil))))
  (wRet (wIxV 1 (wVar 2))))
/-- law_alternate(law_jar_here, law_most_here); slots: 0 law_jar_here, 1 law_most_here, 2 law_found, 3 law_numbers_here, 4 law_rung, 5 law_turn, 6 law_gap, 7 law_wide, 8 law_more, 9 law_again, 10 law_number -/
def b_law_alternate_1 : WS := (wSeq (wSet 8 (wLst wNil))
  (wSeq (wFor (wRng rg1 (wCons (wVar 7) wNil)) (fName 9) (wSet 8 (wBin fAdd (wVar 8) (wLc (wItems (wVar 3)) (fName 10) wYes (wBin fAdd (wBin fMul (wVar 9) (wVar 4)) (wVar 10)) [10]))))
  (wSeq (wPar 3 4 (wCallB fTuple (wCons (wCallB fSorted (wCons (wVar 8) wNil)) wNil)) (wBin fMul (wVar 4) (wVar 7)))
  (wApp 2 (wTup (wCons (wVar 7) (wCons (wC (.int 0)) wNil)))))))
def b_law_alternate : WS := (wSeq (wPar3 2 3 4 (wLst wNil) (wTup (wCons (wC (.int 0)) wNil)) (wC (.int 1)))
  (wSeq (wFor (wRng rg1 (wCons (wCall 2 wf_law_dip (wCons (wVar 0) (wCons (wBin fAdd (wVar 1) (wC (.int 1))) wNil))) wNil)) (fName 5) (wSeq (wPar 6 7 (wBin fAdd (wC (.int 2)) (wCall 2 wf_law_dip (wCons (wVar 0) (wCons (wC (.int 3)) wNil)))) (wBin fAdd (wC (.int 2)) (wCall 2 wf_law_dip (wCons (wVar 0) (wCons (wC (.int 3)) wNil)))))
  (wIf (wB (wBin fLt (wBin fMul (wCallB fLen (wCons (wVar 3) wNil)) (wVar 7)) (wC (.int 41)))) (wSeq (wIf (wOr (wAnd (wB (wBin fGt (wVar 5) (wC (.int 0)))) (wB (wOpV 2 fNe (wLst wNil)))) (wB (wBin fEq (wCall 2 wf_law_dip (wCons (wVar 0) (wCons (wC (.int 2)) wNil))) (wC (.int 0))))) (wSeq (wApp 2 (wTup (wCons (wVar 6) (wCons (wC (.int 1)) wNil))))
  (wSet 4 (wBin fMul (wVar 4) (wVar 6)))) wNext)
  b_law_alternate_1) wNext)))
  (wRet (wTup (wCons (wVar 3) (wCons (wCallB fTuple (wCons (wVar 2) wNil)) wNil))))))
/-- law_right(law_jar_here); slots: 0 law_jar_here, 1 law_turn, 2 law_numbers_here, 3 law_steps_here, 4 law_by, 5 law_size, 6 law_there, 7 law_wide, 8 law_own, 9 law_number -/
def b_law_right : WS := (wSeq (wFor (wRng rg1 (wCons (wC (.int 6)) wNil)) (fName 1) (wSeq (wAsgN (fTupN [2, 3]) (wCall 2 wf_law_alternate (wCons (wVar 0) (wCons (wC (.int 5)) wNil))))
  (wSeq (wPar 4 5 (wCall 2 wf_law_pick (wCons (wVar 0) (wCons (wLst (wCons (wC (.int 0)) (wCons (wC (.int 7)) (wCons (wUn fNeg (wC (.int 13))) (wCons (wBin fSub (wBin fPow (wC (.int 10)) (wC (.int 30))) (wCall 2 wf_law_dip (wCons (wVar 0) (wCons (wBin fPow (wC (.int 10)) (wC (.int 6))) wNil)))) wNil))))) wNil))) (wC (.int 1)))
  (wSeq (wSet 6 (wCallB fTuple (wCons (wLc (wItems (wVar 2)) (fName 9) wYes (wBin fAdd (wVar 9) (wVar 4)) [9]) wNil)))
  (wSeq (wFor (wItems (wVar 3)) (fTupN [7, 8]) (wSet 5 (wBin fMul (wVar 5) (wVar 7))))
  (wSeq (wIf (wB (wBin fNe (wCallB fRepr (wCons (wLst (wCons (wCall 1 wf_own_ladder (wCons (wVar 6) wNil)) (wCons (wCallK 1 0 1 [0] wf_own_ladder wNil (wCons (wVar 6) wNil)) wNil))) wNil)) (wCallB fRepr (wCons (wLst (wCons (wVar 3) (wCons (wVar 3) wNil))) wNil)))) (wRet (wC (.bl false))) wNext)
  (wSeq (wIf (wB (wBin fNe (wCallB fRepr (wCons (wLst (wCons (wCall 1 wf_joins (wCons (wVar 6) wNil)) (wCons (wCallK 1 0 1 [0] wf_joins wNil (wCons (wVar 6) wNil)) wNil))) wNil)) (wC (.str (Str.ofString "[True, True]"))))) (wRet (wC (.bl false))) wNext)
  (wIf (wB (wBin fNe (wCallB fRepr (wCons (wLst (wCons (wCall 1 wf_least_size (wCons (wVar 6) wNil)) (wCons (wCallK 1 0 1 [0] wf_least_size wNil (wCons (wVar 6) wNil)) wNil))) wNil)) (wCallB fRepr (wCons (wLst (wCons (wVar 5) (wCons (wVar 5) wNil))) wNil)))) (wRet (wC (.bl false))) wNext))))))))
  (wRet (wBin fEq (wLst (wCons (wCall 1 wf_own_ladder (wCons (wTup (wCons (wC (.int 5)) wNil)) wNil)) (wCons (wCall 1 wf_least_size (wCons (wTup (wCons (wC (.int 5)) wNil)) wNil)) (wCons (wCall 1 wf_joins (wCons (wTup (wCons (wUn fNeg (wC (.int 8))) wNil)) wNil)) wNil)))) (wLst (wCons (wTup wNil) (wCons (wC (.int 1)) (wCons (wC (.bl true)) wNil)))))))
/-- law(law_script); slots: 0 law_script, 1 law_k -/
def b_law : WS := (wSeq (wFor (wRng rg1 (wCons (wCallB fMax2 (wCons (wC (.int 2)) (wCons (wCallB fMin2 (wCons (wCallB fLen (wCons (wVar 0) wNil)) (wCons (wC (.int 5)) wNil))) wNil))) wNil)) (fName 1) (wIf (wNot (wB (wCall 1 wf_law_right (wCons (wCall 2 wf_law_jar (wCons (wVar 0) (wCons (wVar 1) wNil))) wNil)))) (wRet (wC (.bl false))) wNext))
  (wRet (wC (.bl true))))
theorem h_is_integer : ∀ (Z : Exn → Prop) (ds : List D) (R : S → Prop), ds.length = 1 → wf_is_integer Z ds R → b_is_integer ⟨fun _ => R (.d .non), R, fun _ => False, fun _ => False, fun x _ => Z x⟩ (rho0 [(Str.ofString "value")] ds) := by
  intro Z ds R hl h
  match ds, h with
  | [d], ⟨hk, h⟩ =>
    simp [b_is_integer, rho0, isi_int hk, isi_bool hk]
    cases d <;> simpa [D.isI, D.isBl] using h
theorem h_is_list : ∀ (Z : Exn → Prop) (ds : List D) (R : S → Prop), ds.length = 1 → wf_is_list Z ds R → b_is_list ⟨fun _ => R (.d .non), R, fun _ => False, fun _ => False, fun x _ => Z x⟩ (rho0 [(Str.ofString "value"), (Str.ofString "number"), (Str.ofString "k")] ds) := by
  intro Z ds R hl h
  match ds, h with
  | [d], ⟨hk, h⟩ =>
    have kd : d.known = true := by cases d <;> first | exact hk | rfl
    simp [b_is_list, rho0, isi_tuple kd]
    cases d <;> first | (simpa [D.isT, isListB] using h) | skip
    rename_i es
    simp only [D.isT, if_true, s_lenT, s_i2, s_frz_d, s_isB, i_t]
    by_cases h1 : (1 : Int) ≤ es.length
    · by_cases h2 : (es.length : Int) ≤ 40
      · simp only [h1, h2, decide_true, if_true]
        refine ⟨es, rfl, noOwn_of rfl, lc_map (fun d => .bl d.isI) (fun d hd acc K ha k => ?_) (sl0 _ 40 (by decide) (by omega)) ?_⟩
        · have : d.known = true := List.all_eq_true.mp hk d hd
          simp [lcStep_eq, wf_is_integer, this, ha]
          simpa using k
        · rw [all_map, s_isB]
          by_cases h3 : es.all D.isI = true
          · rw [if_pos h3]
            simp only [s_sub, s_frz_d]
            obtain ⟨ns, rfl⟩ := allI_map h3
            rw [List.length_map] at h1 h2
            simp only [List.length_map]
            refine ⟨by omega, noOwn_of rfl, ?_⟩
            refine lc_map (fun d => .bl (ltAt ns d)) (fun d hd acc K ha k => ?_) (by simp [rangeD]; exact sl0 ns 40 (by decide) (by omega) |> fun q => by omega) ?_
            · obtain ⟨n, hn, rfl⟩ := List.mem_map.mp hd
              have hn' : n < ns.length - 1 := by simpa using hn
              simp only [lcStep_eq, f_name, st_cons, st_nil, x_yes, x_bin, x_ixV, x_var, true_and, if_true]
              simp [ha]
              refine ix_tI (x := ns.getD n 0) (by omega) (by rw [List.getD_eq_getElem?_getD]; simp; rw [List.getElem?_eq_getElem (by omega)]; rfl) ?_
              simp [ha]
              refine ix_tI (x := ns.getD (n + 1) 0) (by omega) (by
                have e : (((n : Nat) : Int) + 1).toNat = n + 1 := by omega
                rw [e, List.getD_eq_getElem?_getD, List.getElem?_eq_getElem (by omega)]; rfl) ?_
              simpa [ha, ltAt] using k
            · rw [all_map, asc_all ns (by omega)]
              have e : isListB (.tup (ns.map .int)) = ascD (ns.map .int) := by
                simp only [isListB, List.length_map, h3]
                have a1 : decide (1 ≤ ns.length) = true := by simpa using (by omega : 1 ≤ ns.length)
                have a2 : decide (ns.length ≤ 40) = true := by simpa using (by omega : ns.length ≤ 40)
                rw [a1, a2]
                simp
              rw [e] at h
              exact h
          · have e : isListB (.tup es) = false := by
              have h3' : es.all D.isI = false := by simpa using h3
              simp [isListB, h3']
            rw [if_neg h3]
            rw [e] at h
            exact h
      · have e : isListB (.tup es) = false := by
          have : ¬ es.length ≤ 40 := by omega
          simp [isListB, this]
        rw [e] at h
        simpa [h1, h2] using h
    · have e : isListB (.tup es) = false := by
        have : ¬ 1 ≤ es.length := by omega
        simp [isListB, this]
      rw [e] at h
      simpa [h1] using h
theorem h_check_list : ∀ (Z : Exn → Prop) (ds : List D) (R : S → Prop), ds.length = 1 → wf_check_list Z ds R → b_check_list ⟨fun _ => R (.d .non), R, fun _ => False, fun _ => False, fun x _ => Z x⟩ (rho0 [(Str.ofString "value")] ds) := by
  intro Z ds R hl h
  match ds, h with
  | [d], ⟨hk, h⟩ =>
    simp [b_check_list, rho0, wf_is_list, hk, h]
    exact isListB_known hk
theorem h_moved : ∀ (Z : Exn → Prop) (ds : List D) (R : S → Prop), ds.length = 1 → wf_moved Z ds R → b_moved ⟨fun _ => R (.d .non), R, fun _ => False, fun _ => False, fun x _ => Z x⟩ (rho0 [(Str.ofString "numbers"), (Str.ofString "number")] ds) := by
  rintro Z _ R hl ⟨ns, rfl, h0, hl, h⟩
  simp [b_moved, rho0]
  refine ⟨noOwn_of rfl, lc_map (fun d => match d with | .int i => .int (i - ns.headD 0) | d => d) (fun d hd acc K ha k => ?_) (sl0 _ 1000 (by decide) (by simpa using hl)) ?_⟩
  · obtain ⟨n, _, rfl⟩ := List.mem_map.mp hd
    simp [lcStep_eq, ha]
    refine ix_tI (x := ns.headD 0) (by decide) ?_ (by simpa [ha] using k)
    cases ns with
    | nil => exact absurd rfl h0
    | cons a r => rfl
  · have e : (ns.map D.int).map (fun d => match d with | .int i => D.int (i - ns.headD 0) | d => d) = (movedI ns).map .int := by
      simp [movedI, List.map_map, Function.comp_def]
    rw [e]
    exact h

theorem h_run_of : ∀ (Z : Exn → Prop) (ds : List D) (R : S → Prop), ds.length = 1 → wf_run_of Z ds R → b_run_of ⟨fun _ => R (.d .non), R, fun _ => False, fun _ => False, fun x _ => Z x⟩ (rho0 [(Str.ofString "numbers"), (Str.ofString "found")] ds) := by
  rintro Z _ R _ ⟨ns, rfl, h⟩
  simp only [b_run_of]; walk_at "dl"
  refine while_inv (fun ρ => ∃ f : Nat, ρ = [some (.d (tI ns)), some (.d (.int f))] ∧ f + runFrom f (ns.drop f) = runOf ns ∧ f ≤ ns.length) (fun ρ => match ρ with | [_, some (.d (.int f))] => ns.length - f.toNat | _ => 0) ⟨0, rfl, by simp [runOf], Nat.zero_le _⟩ ?_
  rintro ρ N ⟨f, rfl, e, hl⟩ hN
  walk_at "dl"
  by_cases h1 : f < ns.length
  · rw [if_pos (by omega)]
    refine ix_tIn h1 ?_
    have ed : ns.drop f = ns.getD f 0 :: ns.drop (f + 1) := by
      rw [List.drop_eq_getElem_cons h1, List.getD_eq_getElem?_getD, List.getElem?_eq_getElem h1]; rfl
    rw [ed, runFrom] at e
    by_cases h2 : ns.getD f 0 = f
    · walk_at "dl"
      rw [if_pos (by simpa using h2)]
      rw [if_pos h2] at e
      refine hN _ ⟨f + 1, rfl, ?_, by omega⟩ (by show ns.length - ((f : Int) + 1).toNat < ns.length - (f : Int).toNat; omega)
      have ec : ((f + 1 : Nat) : Int) = (f : Int) + 1 := by omega
      rw [ec]
      omega
    · rw [if_neg h2] at e
      have : f = runOf ns := by omega
      walk_at "dl"
      rw [if_neg (by simpa using h2)]
      rw [this]
      exact h
  · rw [if_neg (by omega)]
    have ef : f = ns.length := by omega
    rw [ef, List.drop_length, runFrom] at e
    have : f = runOf ns := by omega
    rw [this]
    exact h
theorem rgC_of {j : Nat} {m c : Nat} (hm : 0 < m) (hm2 : m < 1000000) (hj : j ≤ 1000000) (hc : m * c = j) : RgC 0 (j : Int) (m : Int) c := by
  have hrs : Builtin.Range.rangeSize 0 (j : Int) (m : Int) = c := by
    unfold Builtin.Range.rangeSize
    rw [if_pos (by omega)]
    by_cases z : c = 0
    · subst z
      have : j = 0 := by omega
      subst this
      simp
    · have hj0 : 0 < j := by rw [← hc]; exact Nat.mul_pos hm (by omega)
      rw [if_pos (by omega)]
      have e : ((j : Int) - 0 - 1) = (m - 1) + m * ((c : Int) - 1) := by
        have e1 : (j : Int) = m * c := by rw [← hc]; exact Int.natCast_mul m c
        have e2 : (m : Int) * ((c : Int) - 1) = m * c - m := by rw [Int.mul_sub, Int.mul_one]
        rw [e1, e2]
        generalize (m : Int) * c = q
        omega
      rw [e, Int.add_mul_ediv_left _ _ (by omega), Int.ediv_eq_zero_of_lt (by omega) (by omega)]
      have : c ≤ j := by rw [← hc]; exact Nat.le_mul_of_pos_left c hm
      omega
  have hcj : c ≤ j := by rw [← hc]; exact Nat.le_mul_of_pos_left c hm
  refine ⟨by omega, by omega, ?_, hrs⟩
  unfold Builtin.Range.small
  rw [hrs, if_pos (by omega)]
  simp [Builtin.Range.rangeFitsLong]
  omega
theorem h_without_blocks : ∀ (Z : Exn → Prop) (ds : List D) (R : S → Prop), ds.length = 2 → wf_without_blocks Z ds R → b_without_blocks ⟨fun _ => R (.d .non), R, fun _ => False, fun _ => False, fun x _ => Z x⟩ (rho0 [(Str.ofString "numbers"), (Str.ofString "many"), (Str.ofString "found"), (Str.ofString "at")] ds) := by
  rintro Z _ R _ ⟨ns, m, rfl, hm, hm2, hl, h⟩
  have hm0 : (m : Int) ≠ 0 := by omega
  simp only [b_without_blocks]; walk_at "dl"
  refine ⟨hm0, ?_⟩
  rw [Int.fmod_eq_emod_of_nonneg _ (by omega : (0 : Int) ≤ m)]
  unfold withoutB at h
  by_cases h1 : ns.length % m = 0
  · have e1 : (ns.length : Int) % (m : Int) = 0 := by rw [← Int.natCast_emod, h1]; rfl
    rw [if_neg (by omega)] at h
    rw [if_pos e1]
    refine ⟨ns.length / m, rgC_of hm hm2 hl (Nat.mul_div_cancel' (Nat.dvd_of_mod_eq_zero h1)), ?_⟩
    have hlen : m * (ns.length / m) = ns.length := Nat.mul_div_cancel' (Nat.dvd_of_mod_eq_zero h1)
    have ix : ∀ i, i < ns.length / m → i * m + m - 1 < ns.length := fun i hi => by
      have : (i + 1) * m ≤ (ns.length / m) * m := Nat.mul_le_mul_right m hi
      rw [Nat.mul_comm (ns.length / m) m, hlen, Nat.add_mul, Nat.one_mul] at this
      omega
    refine for_inv (fun ds ρ => ∃ (is : List Nat) (acc : List Int) (x : Option S), ds = is.map (fun (i : Nat) => D.int (0 + (i : Nat) * (m : Int))) ∧ ρ = [some (.d (tI ns)), some (.d (.int m)), some (.own (acc.map .int)), x] ∧ (∀ i ∈ is, i < ns.length / m) ∧ acc.length + is.length ≤ ns.length / m ∧ (wbGo ns m is).map (acc ++ ·) = wbGo ns m (List.range (ns.length / m))) ⟨List.range (ns.length / m), [], none, rfl, rfl, fun i hi => List.mem_range.mp hi, by simp, by cases wbGo ns m (List.range (ns.length / m)) <;> simp⟩ ?_ ?_
    · rintro d ds' ρ N ⟨is, acc, x, e, rfl, hi, hal, hw⟩ hN
      match is, e, hi, hal, hw with
      | i :: is, e, hi, hal, hw =>
        rw [List.map_cons] at e
        injection e with e e'
        subst e e'
        have hi0 := hi i (List.mem_cons_self ..)
        have hix := ix i hi0
        have hdl : ns.length / m ≤ ns.length := Nat.div_le_self ns.length m
        have q1 : (i : Int) * (m : Int) = ((i * m : Nat) : Int) := (Int.natCast_mul i m).symm
        have q2 : ((i * m : Nat) : Int) + (m : Int) - 1 = ((i * m + m - 1 : Nat) : Int) := by omega
        rw [wbGo] at hw
        rw [q1]
        walk_at "dl"
        refine ix_tIn (by omega) ?_
        walk_at "dl"
        refine ⟨hm0, ?_⟩
        rw [Int.fmod_eq_emod_of_nonneg _ (by omega : (0 : Int) ≤ m)]
        by_cases c1 : ns.getD (i * m) 0 % (m : Int) = 0
        · rw [if_pos c1]
          rw [q2]
          refine ix_tIn hix ?_
          walk_at "dl"
          refine ix_tIn (by omega) ?_
          walk_at "dl"
          by_cases c2 : ns.getD (i * m + m - 1) 0 = ns.getD (i * m) 0 + m - 1
          · rw [if_pos c2]
            refine ix_tIn (by omega) ?_
            walk_at "dl"
            refine ⟨.inl ⟨hm0, by omega⟩, Nat.lt_of_lt_of_le (by simp at hal ⊢; omega : acc.length < 1000000) (by decide), ?_⟩
            refine hN _ ⟨is, acc ++ [ns.getD (i * m) 0 / (m : Int)], some (.d (.int (i * m : Nat))), rfl, ?_, fun j hj => hi j (List.mem_cons_of_mem _ hj), by simp at hal ⊢; omega, ?_⟩
            · rw [Int.fdiv_eq_ediv_of_nonneg _ (by omega : (0 : Int) ≤ m), List.map_append]
              rfl
            · rw [if_neg (by simp only [not_or, Decidable.not_not]; exact ⟨c1, c2⟩)] at hw
              rw [← hw]
              cases wbGo ns m is <;> simp
          · rw [if_neg c2]
            rw [if_pos (.inr c2)] at hw
            rw [← hw] at h
            exact h
        · rw [if_neg c1]
          rw [if_pos (.inl c1)] at hw
          rw [← hw] at h
          exact h
    · rintro ρ ⟨is, acc, x, e, rfl, hi, hal, hw⟩
      match is, e, hw with
      | [], _, hw =>
        walk_at "dl"
        rw [← hw] at h
        simpa [wbGo, optD] using h
  · have e1 : ¬ (ns.length : Int) % (m : Int) = 0 := by rw [← Int.natCast_emod]; omega
    rw [if_pos (by omega)] at h
    rw [if_neg e1]
    exact h
theorem h_divided : ∀ (Z : Exn → Prop) (ds : List D) (R : S → Prop), ds.length = 2 → wf_divided Z ds R → b_divided ⟨fun _ => R (.d .non), R, fun _ => False, fun _ => False, fun x _ => Z x⟩ (rho0 [(Str.ofString "numbers"), (Str.ofString "many"), (Str.ofString "number")] ds) := by
  rintro Z _ R _ ⟨ns, b, rfl, hb, hb2, hl, h⟩
  have hb0 : b ≠ 0 := by omega
  simp only [b_divided]; walk_at "dl"
  refine ⟨noOwn_of rfl, lc_map (fun d => .bl (match d with | .int n => n % b == 0 | _ => true)) (fun d hd acc K ha k => ?_) (Nat.le_trans (by simpa using hl) sizeLine_big) ?_⟩
  · obtain ⟨n, _, rfl⟩ := List.mem_map.mp hd
    walk_at "dl"
    refine ⟨hb0, ha, ?_⟩
    rw [Int.fmod_eq_emod_of_nonneg _ (by omega)]
    exact k
  · rw [all_map]
    have e : ((ns.map D.int).all fun d => (match d with | .int n => n % b == 0 | _ => true)) = ns.all (fun n => n % b == 0) := by
      rw [List.all_map]; rfl
    rw [e]
    unfold dividedB at h
    by_cases c : ns.all (fun n => n % b == 0) = true
    · rw [if_pos c] at h
      rw [c]
      walk_at "dl"
      refine ⟨noOwn_of rfl, lc_map (fun d => match d with | D.int n => D.int (n / b) | d => d) (fun d hd acc K ha k => ?_) (Nat.le_trans (by simpa using hl) sizeLine_big) ?_⟩
      · obtain ⟨n, _, rfl⟩ := List.mem_map.mp hd
        walk_at "dl"
        rw [Int.fdiv_eq_ediv_of_nonneg _ (by omega)]
        exact ⟨.inr ⟨hb, hb2⟩, ha, k⟩
      · have e2 : (ns.map D.int).map (fun d => match d with | D.int n => D.int (n / b) | d => d) = (ns.map (· / b)).map D.int := by simp [List.map_map, Function.comp_def]
        rw [e2]
        exact h
    · have c' : ns.all (fun n => n % b == 0) = false := by simpa using c
      rw [if_neg c] at h
      rw [c']
      walk_at "dl"
      exact h
theorem ltcap {f : Nat} {x : Int} (h : x < 2 ^ f) (hf : f ≤ 8000) : x.natAbs.log2 < 9000 ∨ x < 0 := by
  by_cases z : x < 0
  · exact .inr z
  · refine .inl ?_
    by_cases z0 : x = 0
    · subst z0; decide
    · have : x.natAbs < 2 ^ f := by
        have e : ((x.natAbs : Nat) : Int) = x := by omega
        have : ((x.natAbs : Nat) : Int) < ((2 ^ f : Nat) : Int) := by rw [e]; push_cast; exact h
        exact Int.ofNat_lt.mp this
      have := (Nat.log2_lt (by omega)).mpr this
      omega
def lastD : D → Nat
  | .tup l => match l.getD (l.length - 1) .non with
    | .int i => i.toNat + 1
    | _ => 0
  | _ => 0
def muOwn (ρ : Rho) : Nat := match (ρ[2]? : Option (Option S)) with
  | some (some (.d d)) => lastD d
  | _ => 0
theorem lastD_tI {l : List Int} (h : l ≠ []) : lastD (tI l) = (lastOf l).toNat + 1 := by
  have hl : l.length - 1 < l.length := by
    cases l with
    | nil => exact absurd rfl h
    | cons => simp
  unfold lastD lastOf
  simp only [List.length_map]
  rw [getD_map (a := 0) hl]
theorem h_own_ladder_of : ∀ (Z : Exn → Prop) (ds : List D) (R : S → Prop), ds.length = 1 → wf_own_ladder_of Z ds R → b_own_ladder_of ⟨fun _ => R (.d .non), R, fun _ => False, fun _ => False, fun x _ => Z x⟩ (rho0 [(Str.ofString "numbers"), (Str.ofString "found"), (Str.ofString "left")] ds) := by
  rintro Z _ R _ ⟨ns, rfl, hA, h⟩
  simp only [b_own_ladder_of]; walk_at "dl"
  refine while_inv (fun ρ => ∃ (acc : List (Int × Int)) (o : Option (List Int)), ρ = [some (.d (tI ns)), some (.own (acc.map sD)), some (.d (optD (o.map tI)))] ∧ acc.length ≤ 8000 ∧ (∀ l, o = some l → Asc0 l ∧ lastOf l < 2 ^ (8000 - acc.length) ∧ ∃ f : Nat, lastOf l < f ∧ (ownF f l).map (acc ++ ·) = own ns) ∧ (o = none → own ns = none)) muOwn
    ⟨[], some ns, rfl, by simp, ?_, by simp⟩ ?_
  · intro l e
    cases e
    exact ⟨hA, hA.big, (lastOf ns).toNat + 1, by omega, by show (own ns).map _ = _; cases own ns <;> simp⟩
  · rintro ρ N ⟨acc, o, rfl, hl, hs, hn⟩ hN
    cases o with
    | none =>
      walk_at "dl"
      rw [hn rfl] at h
      exact h
    | some l =>
      obtain ⟨hAl, hb, f, hf, he⟩ := hs l rfl
      clear hs hn
      simp only [Option.map_some, optD, Option.getD_some]; walk_at "dl"
      rw [s_neT1]; walk_at "dl"
      by_cases z : l = [0]
      · subst z
        rw [if_pos rfl]
        have e : (ownF f [0]) = some [] := by
          cases f with
          | zero => exact absurd hf (by decide)
          | succ f => simp [ownF]
        rw [e] at he
        rw [← he] at h
        simpa [optD] using h
      · rw [if_neg z]
        have h2 := hAl.two z
        have h1 := hAl.one_le z
        have hl1 := hAl.last1 z
        have hm := hAl.le_last 1 h2
        have hlen := hAl.len
        have hro := runFrom_le 0 l
        have hal : acc.length < 8000 := by
          by_cases q : acc.length = 8000
          · rw [q] at hb; simp at hb; omega
          · omega
        have hpow : (2 : Int) ^ (8000 - acc.length) = 2 * 2 ^ (8000 - (acc.length + 1)) := by
          have : 8000 - acc.length = (8000 - (acc.length + 1)) + 1 := by omega
          rw [this, Int.pow_succ]; omega
        have hsz : acc.length < sizeLine := Nat.lt_trans hal (by decide)
        have i1 : ((1 : Nat) : Int) = 1 := rfl
        have hlog : (l.getD 1 0).natAbs.log2 < 9000 := by
          rcases ltcap (f := 8000 - acc.length) (x := l.getD 1 0) (by omega) (by omega) with q | q
          · exact q
          · omega
        obtain ⟨f, rfl⟩ : ∃ g, f = g + 1 := by
          cases f with
          | zero => omega
          | succ g => exact ⟨g, rfl⟩
        rw [ownF, if_neg z] at he
        refine ix_tIi (n := 1) rfl (by omega) ?_
        walk_at "dl"
        by_cases c : l.getD 1 0 = 1
        · have hr2 := runOf_two hAl c h2
          rw [if_pos c] at he
          rw [if_pos c]
          have hrl : runOf l ≤ l.length := runFrom_le 0 l
          refine ⟨l, rfl, ?_⟩
          walk_at "dl"
          refine ⟨hsz, ix_lastL ?_⟩
          walk_at "dl"
          refine ix_tup (Int.le_refl _) rfl ?_
          walk_at "dl"
          refine ⟨l, runOf l, rfl, by omega, by omega, by omega, ?_⟩
          refine hN _ ⟨acc ++ [((runOf l : Int), 0)], withoutB l (runOf l), by rw [List.map_append]; rfl, by simp; omega, fun l' e => ?_, fun e => ?_⟩ ?_
          · obtain ⟨p1, p2, p3⟩ := hAl.without z (runOf l) hr2 e
            rw [e, Option.bind_some, Option.map_map] at he
            exact ⟨p1, by rw [List.length_append, List.length_singleton]; omega, f, by omega, by rw [← he]; congr 1; funext q; simp⟩
          · rw [e] at he
            exact he.symm
          · show lastD _ < lastD (tI l)
            rw [lastD_tI hAl.ne]
            cases e : withoutB l (runOf l) with
            | none => exact Nat.succ_pos _
            | some l' =>
              obtain ⟨p1, p2, p3⟩ := hAl.without z (runOf l) hr2 e
              show lastD (tI l') < _
              rw [lastD_tI p1.ne]
              omega
        · rw [if_neg c] at he
          rw [if_neg c]
          refine ix_tIi (n := 1) rfl (by omega) ?_
          walk_at "dl"
          refine ⟨hsz, ix_tIi (n := 1) rfl (by omega) ?_⟩
          walk_at "dl"
          refine ⟨l, l.getD 1 0, rfl, by omega, hlog, by omega, ?_⟩
          refine hN _ ⟨acc ++ [(l.getD 1 0, 1)], dividedB l (l.getD 1 0), by rw [List.map_append]; rfl, by simp; omega, fun l' e => ?_, fun e => ?_⟩ ?_
          · obtain ⟨p1, p2, p3⟩ := hAl.divided z c e
            rw [e, Option.bind_some, Option.map_map] at he
            exact ⟨p1, by rw [List.length_append, List.length_singleton]; omega, f, by omega, by rw [← he]; congr 1; funext q; simp⟩
          · rw [e] at he
            exact he.symm
          · show lastD _ < lastD (tI l)
            rw [lastD_tI hAl.ne]
            cases e : dividedB l (l.getD 1 0) with
            | none => exact Nat.succ_pos _
            | some l' =>
              obtain ⟨p1, p2, p3⟩ := hAl.divided z c e
              show lastD (tI l') < _
              rw [lastD_tI p1.ne]
              omega
theorem h_own_ladder : ∀ (Z : Exn → Prop) (ds : List D) (R : S → Prop), ds.length = 1 → wf_own_ladder Z ds R → b_own_ladder ⟨fun _ => R (.d .non), R, fun _ => False, fun _ => False, fun x _ => Z x⟩ (rho0 [(Str.ofString "numbers")] ds) := by
  rintro Z _ R _ ⟨ns, rfl, ⟨h1, h2⟩, h⟩
  simp only [b_own_ladder]; walk_at "dl"
  refine ⟨h1, ?_⟩
  have hne : ns ≠ [] := fun q => h2.ne (by rw [q]; rfl)
  have hlen : ns.length ≤ 1000 := by have := h2.len; simp [movedI] at this; omega
  refine ⟨ns, rfl, hne, hlen, ?_⟩
  exact ⟨movedI ns, rfl, h2, h⟩
theorem h_joins : ∀ (Z : Exn → Prop) (ds : List D) (R : S → Prop), ds.length = 1 → wf_joins Z ds R → b_joins ⟨fun _ => R (.d .non), R, fun _ => False, fun _ => False, fun x _ => Z x⟩ (rho0 [(Str.ofString "numbers")] ds) := by
  rintro Z _ R _ ⟨ns, rfl, h1, h⟩
  simp only [b_joins]; walk_at "dl"
  refine ⟨ns, rfl, h1, ?_⟩
  walk_at "dl"
  rw [optD_isN stepsD_isN, Bool.not_not]
  exact h
theorem rung_big {l : List (Int × Int)} (h : RungOk l) : True := trivial
theorem h_rungs_of : ∀ (Z : Exn → Prop) (ds : List D) (R : S → Prop), ds.length = 1 → wf_rungs_of Z ds R → b_rungs_of ⟨fun _ => R (.d .non), R, fun _ => False, fun _ => False, fun x _ => Z x⟩ (rho0 [(Str.ofString "steps"), (Str.ofString "found"), (Str.ofString "step")] ds) := by
  rintro Z _ R _ ⟨l, rfl, ⟨h1, h2⟩, h⟩
  simp only [b_rungs_of]; walk_at "dl"
  refine for_inv (fun ds ρ => ∃ (pre : List Int) (r : Int) (l' : List (Int × Int)) (x : Option S), ds = l'.map sD ∧ ρ = [some (.d (stepsD l)), some (.own ((pre ++ [r]).map .int)), x] ∧ pre ++ rungL r l' = rungL 1 l ∧ (∀ p ∈ l', -(2 ^ 64) < p.1 ∧ p.1 < 2 ^ 64) ∧ pre.length + l'.length ≤ l.length) ⟨[], 1, l, none, rfl, rfl, rfl, h1, by simp⟩ ?_ ?_
  · rintro d ds' ρ N ⟨pre, r, l', x, e, rfl, e2, e3, e4⟩ hN
    match l', e, e2, e3, e4 with
    | p :: l', e, e2, e3, e4 =>
      rw [List.map_cons] at e
      injection e with e e'
      subst e e'
      walk_at "dl"
      rw [List.map_append, List.map_singleton]
      refine ix_lastL ?_
      refine ix_tup (Int.le_refl _) rfl ?_
      walk_at "dl"
      refine ⟨.inl (.inr (e3 p (List.mem_cons_self ..))), Nat.lt_of_le_of_lt (?_ : _ ≤ 100001) (by decide), ?_⟩
      · simp at e4 ⊢; omega
      · refine hN _ ⟨pre ++ [r], r * p.1, l', some (.d (sD p)), rfl, by simp, by rw [← e2, rungL]; simp, fun q hq => e3 q (List.mem_cons_of_mem _ hq), by simp at e4 ⊢; omega⟩
  · rintro ρ ⟨pre, r, l', x, e, rfl, e2, e3, e4⟩
    match l', e, e2 with
    | [], _, e2 =>
      walk_at "dl"
      rw [rungL] at e2
      rw [e2]
      exact h
theorem h_least_size : ∀ (Z : Exn → Prop) (ds : List D) (R : S → Prop), ds.length = 1 → wf_least_size Z ds R → b_least_size ⟨fun _ => R (.d .non), R, fun _ => False, fun _ => False, fun x _ => Z x⟩ (rho0 [(Str.ofString "numbers"), (Str.ofString "steps")] ds) := by
  rintro Z _ R _ ⟨ns, rfl, h1, h2, h⟩
  simp only [b_least_size]; walk_at "dl"
  refine ⟨ns, rfl, h1, ?_⟩
  walk_at "dl"
  cases e : own (movedI ns) with
  | none =>
    rw [e] at h
    exact h
  | some l =>
    rw [e] at h
    have e1 := rungL_last 1 l
    refine ⟨l, rfl, h2 l e, ?_⟩
    obtain ⟨pre, e1⟩ := e1
    walk_at "dl"
    rw [tI, e1, List.map_append, List.map_singleton]
    exact ix_lastT (by rw [Int.one_mul]; exact h)

theorem h_law_jar : ∀ (Z : Exn → Prop) (ds : List D) (R : S → Prop), ds.length = 2 → wf0_law_jar Z ds R → b_law_jar ⟨fun _ => R (.d .non), R, fun _ => False, fun _ => False, fun x _ => Z x⟩ (rho0 [(Str.ofString "_law_script"), (Str.ofString "_law_k"), (Str.ofString "_law_churned"), (Str.ofString "_law_cell"), (Str.ofString "_law_own"), (Str.ofString "_law_digits")] ds) := by
  rintro Z _ R _ ⟨ns, k, rfl, hk, h⟩
  simp only [b_law_jar]; walk_at "dl"
  refine ⟨by walk_at "mo", by walk_at "mo", by walk_at "mo", ?_⟩
  rw [cut_map]
  refine for_inv (fun ds ρ => ∃ (ms : List Int) (c : Int) (x : Option S), ds = ms.map .int ∧ ρ = [some (.d (.rls (ns.map .int))), some (.d (.int k)), some (.d (.int c)), x, none, none]) ⟨_, _, _, rfl, rfl⟩ ?_ ?_
  · rintro d ds' ρ N ⟨ms, c, x, e, rfl⟩ hN
    match ms, e with
    | m :: ms, e =>
      rw [List.map_cons] at e
      injection e with e e'
      subst e e'
      walk_at "dl"
      refine ⟨by walk_at "mo", by decide, hN _ ⟨ms, _, _, rfl, rfl⟩⟩
  · rintro ρ ⟨ms, c, x, e, rfl⟩
    have fin : ∀ own z : Int, DL.MulOk c 8117 ∧ DL.MulOk own 64013 ∧ DL.MulOk 105019 (k + 1) ∧ ¬(2147483563 : Int) = 0 ∧ R (.own [.int z, .int ((c * 8117 + own * 64013 + 105019 * (k + 1)).fmod 2147483563), .int 0]) := fun own z => by
      refine ⟨by walk_at "mo", by walk_at "mo", by walk_at "mo", by decide, h _ _ ?_⟩
      have := fmod_pos (a := c * 8117 + own * 64013 + 105019 * (k + 1)) (b := 2147483563) (by decide)
      omega
    walk_at "dl"
    by_cases c0 : k < ns.length
    · rw [if_pos c0]
      have hi : k.toNat < ns.length := by omega
      refine ix_rls (x := .int (ns.getD k.toNat 0)) hk.1 (by rw [List.getElem?_map, List.getD_eq_getElem?_getD, List.getElem?_eq_getElem hi]; rfl) ?_
      generalize ns.getD k.toNat 0 = own
      walk_at "dl"
      by_cases c1 : own < 0
      · simp only [c1]; walk_at "dl"
        exact fin _ _
      · simp only [c1]; walk_at "dl"
        refine ⟨pow_18, ?_⟩
        by_cases c2 : (10 : Int) ^ Int.toNat 18 ≤ own
        · simp only [c2]; walk_at "dl"
          exact fin _ _
        · simp only [c2]; walk_at "dl"
          exact fin _ _
    · rw [if_neg c0]
      by_cases c1 : (0 : Int) < 0
      · simp only [c1]; walk_at "dl"
        exact fin _ _
      · simp only [c1]; walk_at "dl"
        refine ⟨pow_18, ?_⟩
        by_cases c2 : (10 : Int) ^ Int.toNat 18 ≤ (0 : Int)
        · simp only [c2]; walk_at "dl"
          exact fin _ _
        · simp only [c2]; walk_at "dl"
          exact fin _ _
theorem j_law_jar : ∀ (Z : Exn → Prop) (ds : List D) (R : S → Prop), ds.length = 2 → wf_law_jar Z ds R → wf0_law_jar Z ds fun s => ∃ x y z : Int, s = .own [.int x, .int y, .int z] ∧ (-(2 ^ 40) < y ∧ y < 2 ^ 40) ∧ R (.d .jar) := by
  rintro Z _ R _ ⟨ns, k, rfl, hk, h⟩
  exact ⟨ns, k, rfl, hk, fun x y b => ⟨x, y, 0, rfl, b, h⟩⟩
theorem h_law_dip : ∀ (Z : Exn → Prop) (ds : List D) (R : S → Prop), ds.length = 2 → wf_law_dip Z ds R → b_law_dip ⟨fun _ => R (.d .non), R, fun _ => False, fun _ => False, fun x _ => Z x⟩ (rho0 [(Str.ofString "_law_jar_here"), (Str.ofString "_law_wide"), (Str.ofString "_law_digit"), (Str.ofString "_law_seed")] ds) := by
  rintro Z _ R _ ⟨n, rfl, ⟨h1, h2⟩, h⟩
  simp only [b_law_dip]; walk_at "dl"
  intro _ b
  by_cases c : 0 < b
  · rw [if_pos c]
    intro a
    exact ⟨by omega, fun _ => ⟨.inl ⟨by omega, by omega⟩, h _ (fmod_pos h1).1 (fmod_pos h1).2⟩⟩
  · rw [if_neg c]
    refine fun a ha => ⟨by walk_at "mo", fun b => ⟨by walk_at "mo", by decide, ?_, fun b hb => ⟨.inl ⟨by decide, by decide⟩, by omega, h _ (fmod_pos h1).1 (fmod_pos h1).2⟩⟩⟩
    have := fun x : Int => fmod_pos (a := x) (b := 2147483399) (by decide)
    exact ⟨Int.lt_of_lt_of_le (by decide) (this _).1, Int.lt_trans (this _).2 (by decide)⟩
theorem h_law_pick : ∀ (Z : Exn → Prop) (ds : List D) (R : S → Prop), ds.length = 2 → wf_law_pick Z ds R → b_law_pick ⟨fun _ => R (.d .non), R, fun _ => False, fun _ => False, fun x _ => Z x⟩ (rho0 [(Str.ofString "_law_jar_here"), (Str.ofString "_law_menu"), (Str.ofString "_law_at")] ds) := by
  rintro Z _ R _ ⟨es, rfl, ⟨h1, h2⟩, h⟩
  simp only [b_law_pick]; walk_at "dl"
  refine ⟨_, rfl, ⟨by omega, by omega⟩, fun r hr0 hr1 => ?_⟩
  obtain ⟨i, rfl⟩ := Int.eq_ofNat_of_zero_le hr0
  have hi : i < es.length := by omega
  walk_at "dl"
  exact ix_lst hr0 (by rw [Int.toNat_natCast, List.getElem?_eq_getElem hi]) (h _ (List.getElem_mem hi))


theorem b1_k16 {E : DEnds} {m i g : Int} {s : List (Int × Int)} {w : Nat} {x8 x9 : Option S} (h1 : ∀ p ∈ s, 1 ≤ p.1) (hl : (Lf s).length ≤ 40) (hp : 1 ≤ prodL s ∧ prodL s < 2 ^ 170) (hw : w ≤ 5) (hw1 : 1 ≤ w) (hs : s.length ≤ 1000)
    (h : ∀ y8 y9 : Option S, E.nx [some (.d .jar), some (.d (.int m)), some (.own ((s ++ [((w : Int), 0)]).map sD)), some (.d (tI (Lf (s ++ [((w : Int), 0)])))), some (.d (.int (prodL (s ++ [((w : Int), 0)])))), some (.d (.int i)), some (.d (.int g)), some (.d (.int w)), y8, y9, none]) :
    b_law_alternate_1 E [some (.d .jar), some (.d (.int m)), some (.own (s.map sD)), some (.d (tI (Lf s))), some (.d (.int (prodL s))), some (.d (.int i)), some (.d (.int g)), some (.d (.int w)), x8, x9, none] := by
  simp only [b_law_alternate_1]; walk_at "dl"
  refine ⟨⟨by omega, by omega⟩, ?_⟩
  rw [Int.toNat_natCast]
  have ha : Asc (Lf (s ++ [((w : Int), 0)])) := Lg_asc (fun p hp => by
    rcases List.mem_append.mp hp with q | q
    · exact h1 p q
    · rw [List.mem_singleton.mp q]; show (1 : Int) ≤ w; omega) (by simp [Asc])
  have hf := Lf_own s w
  refine for_rng (fun k ρ => ∃ x9 : Option S, ρ = [some (.d .jar), some (.d (.int m)), some (.own (s.map sD)), some (.d (tI (Lf s))), some (.d (.int (prodL s))), some (.d (.int i)), some (.d (.int g)), some (.d (.int w)), some (.own (((List.range k).flatMap fun (a : Nat) => (Lf s).map fun n => (a : Int) * prodL s + n).map .int)), x9, none]) ⟨_, rfl⟩ ?_ ?_
  · rintro k ρ N hk ⟨x9, rfl⟩ hN
    walk_at "dl"
    refine ⟨noOwn_of rfl, lc_ints (fun n => (k : Int) * prodL s + n) (fun n _ acc K ha hK => ?_) (Nat.le_trans (Nat.le_trans hl (by decide)) sizeLine_big) ?_⟩
    · walk_at "dl"
      exact ⟨by walk_at "mo", ha, hK⟩
    · walk_at "dl"
      refine ⟨Nat.le_trans ?_ sizeLine_big, hN _ ⟨some (.d (.int (0 + k))), ?_⟩⟩
      · have : ∀ k, ((List.range k).flatMap fun (a : Nat) => (Lf s).map fun n => (a : Int) * prodL s + n).length ≤ k * 40 := fun k => by
          induction k with
          | zero => simp
          | succ k ih => rw [List.range_succ, List.flatMap_append, List.length_append]; simp at ih ⊢; omega
        have := this k
        simp at this ⊢
        omega
      · rw [List.range_succ, List.flatMap_append, List.map_append]
        simp
  · rintro ρ ⟨x9, rfl⟩
    walk_at "dl"
    rw [← hf]
    refine s_sortedA (List.Pairwise.imp (fun h => Int.le_of_lt h) ha) ?_
    walk_at "dl"
    refine ⟨by walk_at "mo", Nat.lt_of_le_of_lt (m := 1000) (by simpa using hs) (by decide), ?_⟩
    have := h (some (.d (.lst ((Lf (s ++ [((w : Int), 0)])).map .int)))) x9
    have e1 : (s ++ [((w : Int), (0 : Int))]).map sD = s.map sD ++ [D.tup [.int w, .int 0]] := by rw [List.map_append]; rfl
    have e2 : prodL (s ++ [((w : Int), (0 : Int))]) = prodL s * w := by rw [prodL_append]; simp [prodL]
    rw [e1, e2] at this
    exact this
theorem h_law_alternate : ∀ (Z : Exn → Prop) (ds : List D) (R : S → Prop), ds.length = 2 → wf_law_alternate Z ds R → b_law_alternate ⟨fun _ => R (.d .non), R, fun _ => False, fun _ => False, fun x _ => Z x⟩ (rho0 [(Str.ofString "_law_jar_here"), (Str.ofString "_law_most_here"), (Str.ofString "_law_found"), (Str.ofString "_law_numbers_here"), (Str.ofString "_law_rung"), (Str.ofString "_law_turn"), (Str.ofString "_law_gap"), (Str.ofString "_law_wide"), (Str.ofString "_law_more"), (Str.ofString "_law_again"), (Str.ofString "_law_number")] ds) := by
  rintro Z _ R _ ⟨m, rfl, hm, h⟩
  simp only [b_law_alternate]; walk_at "dl"
  refine ⟨_, rfl, ⟨by omega, by omega⟩, fun r hr0 hr1 => ?_⟩
  walk_at "dl"
  refine ⟨⟨by omega, by omega⟩, ?_⟩
  refine for_rng (fun i ρ => ∃ (s : List (Int × Int)) (x5 x6 x7 x8 x9 : Option S), Good s ∧ s.length ≤ 2 * i ∧ (s ≠ [] → 0 < i) ∧ ρ = [some (.d .jar), some (.d (.int m)), some (.own (s.map sD)), some (.d (tI (Lf s))), some (.d (.int (prodL s))), x5, x6, x7, x8, x9, none]) ⟨[], none, none, none, none, none, ⟨trivial, by simp, by simp, by decide, by decide, by simp⟩, by decide, by simp, rfl⟩ ?_ ?_
  · rintro i ρ N hi ⟨s, x5, x6, x7, x8, x9, hg, hs1, hs2, rfl⟩ hN
    walk_at "dl"
    refine ⟨3, rfl, ⟨by decide, by decide⟩, fun a ha0 ha1 => ?_⟩
    walk_at "dl"
    refine ⟨3, rfl, ⟨by decide, by decide⟩, fun b hb0 hb1 => ?_⟩
    walk_at "dl"
    refine ⟨by walk_at "mo", ?_⟩
    by_cases c : ((Lf s).length : Int) * (2 + b) < 41
    · rw [if_pos c]
      obtain ⟨w, hw⟩ : ∃ w : Nat, 2 + b = w := ⟨(2 + b).toNat, by omega⟩
      rw [hw] at c ⊢
      have hw2 : 2 ≤ w ∧ w ≤ 4 := by omega
      have hl : w * (Lf s).length ≤ 40 := by
        have : ((w * (Lf s).length : Nat) : Int) < 41 := by rw [Int.natCast_mul, Int.mul_comm]; exact c
        omega
      have hs78 : s.length ≤ 78 := by omega
      have hg' := hg.grow (g := 2 + a) ⟨by omega, by omega⟩ hw2 hl hs78
      have grown : ∀ (E : DEnds) (x8 x9 : Option S), E.nx = N → s.length < sizeLine ∧ DL.MulOk (prodL s) (2 + a) ∧ b_law_alternate_1 E [some (.d .jar), some (.d (.int m)), some (.own (s.map sD ++ [D.tup [.int (2 + a), .int 1]])), some (.d (tI (Lf s))), some (.d (.int (prodL s * (2 + a)))), some (.d (.int i)), some (.d (.int (2 + a))), some (.d (.int w)), x8, x9, none] := fun E x8 x9 hE => by
        refine ⟨Nat.lt_of_le_of_lt (m := 78) hs78 (by decide), by walk_at "mo", ?_⟩
        have hpr := (prod_le (s := s ++ [(2 + a, 1)]) (fun p hp => hg'.two p (List.mem_append_left _ hp)) (fun p hp => hg'.four p (List.mem_append_left _ hp)))
        have := b1_k16 (E := E) (m := m) (i := i) (g := 2 + a) (s := s ++ [(2 + a, 1)]) (w := w) (x8 := x8) (x9 := x9) (fun p hp => by have := hg'.two p (List.mem_append_left _ hp); omega) (by rw [Lf_other]; exact hg.len)
          ⟨hpr.1, by
            have e1 : prodL (s ++ [(2 + a, (1 : Int))]) = prodL s * (2 + a) := by rw [prodL_append]; simp [prodL]
            have := hg'.prod.2
            rw [prodL_append] at this
            have e3 : prodL [((w : Int), (0 : Int))] = w := by simp [prodL]
            rw [e3] at this
            have : prodL (s ++ [(2 + a, (1 : Int))]) * 1 ≤ prodL (s ++ [(2 + a, (1 : Int))]) * w := Int.mul_le_mul_of_nonneg_left (by omega) (by omega)
            omega⟩ (by omega) (by omega) (by simp; omega)
          (fun y8 y9 => by rw [hE]; exact hN _ ⟨s ++ [(2 + a, 1)] ++ [((w : Int), 0)], _, _, _, y8, y9, hg', by simp; omega, fun _ => Nat.succ_pos _, rfl⟩)
        have e1 : (s ++ [(2 + a, (1 : Int))]).map sD = s.map sD ++ [D.tup [.int (2 + a), .int 1]] := by rw [List.map_append]; rfl
        have e2 : prodL (s ++ [(2 + a, (1 : Int))]) = prodL s * (2 + a) := by rw [prodL_append]; simp [prodL]
        rw [e1, e2, Lf_other] at this
        exact this
      by_cases hz : s = []
      · subst hz
        have fin : ∀ (E : DEnds), E.nx = N → wf_law_dip (fun x => Z x) [D.jar, D.int 2] fun s_1 =>
            fEq s_1.frz (D.int 0) fun z =>
              z.isB fun b_2 =>
                if b_2 = true then
                  ([] : List (Int × Int)).length < sizeLine ∧ DL.MulOk (prodL []) (2 + a) ∧ b_law_alternate_1 E [some (.d .jar), some (.d (.int m)), some (.own (([] : List (Int × Int)).map sD ++ [D.tup [.int (2 + a), .int 1]])), some (.d (tI (Lf []))), some (.d (.int (prodL [] * (2 + a)))), some (.d (.int i)), some (.d (.int (2 + a))), some (.d (.int w)), x8, x9, none]
                else b_law_alternate_1 E [some (.d .jar), some (.d (.int m)), some (.own (([] : List (Int × Int)).map sD)), some (.d (tI (Lf []))), some (.d (.int (prodL []))), some (.d (.int i)), some (.d (.int (2 + a))), some (.d (.int w)), x8, x9, none] := fun E hE => by
          refine ⟨2, rfl, ⟨by decide, by decide⟩, fun q hq0 hq1 => ?_⟩
          walk_at "dl"
          by_cases c2 : q = 0
          · rw [if_pos c2]
            exact grown _ x8 x9 hE
          · rw [if_neg c2]
            exact b1_k16 (s := []) (by simp) (by decide) (by decide) (by omega) (by omega) (by decide) (fun y8 y9 => by rw [hE]; exact hN _ ⟨_, _, _, _, y8, y9, Good.first hw2, by simp; omega, fun _ => Nat.succ_pos _, rfl⟩)
        by_cases c1 : 0 < (i : Int)
        · rw [if_pos c1]
          refine ⟨by decide, ?_⟩
          have : D.eqb (.lst (([] : List (Int × Int)).map sD)) (.lst []) = true := by decide
          rw [this]
          exact fin _ rfl
        · rw [if_neg c1]
          exact fin _ rfl
      · have := hs2 hz
        rw [if_pos (by omega)]
        refine ⟨cmp_of (n := 2) (stepsL_okEq hg) (by decide) (by decide), ?_⟩
        have : D.eqb (.lst (s.map sD)) (.lst []) = false := by
          cases s with
          | nil => exact absurd rfl hz
          | cons p s => simp [D.eqb, D.py, D.pys, PyData.eqv, PyData.eqvAll]
        rw [this]
        exact grown _ x8 x9 rfl
    · rw [if_neg c]
      exact hN _ ⟨s, _, _, _, x8, x9, hg, by omega, fun _ => Nat.succ_pos _, rfl⟩
  · rintro ρ ⟨s, x5, x6, x7, x8, x9, hg, hs1, hs2, rfl⟩
    walk_at "dl"
    exact h s hg
theorem h_law_right : ∀ (Z : Exn → Prop) (ds : List D) (R : S → Prop), ds.length = 1 → wf_law_right Z ds R → b_law_right ⟨fun _ => R (.d .non), R, fun _ => False, fun _ => False, fun x _ => Z x⟩ (rho0 [(Str.ofString "_law_jar_here"), (Str.ofString "_law_turn"), (Str.ofString "_law_numbers_here"), (Str.ofString "_law_steps_here"), (Str.ofString "_law_by"), (Str.ofString "_law_size"), (Str.ofString "_law_there"), (Str.ofString "_law_wide"), (Str.ofString "_law_own"), (Str.ofString "_law_number")] ds) := by
  rintro Z _ R _ ⟨rfl, h⟩
  simp only [b_law_right]; walk_at "dl"
  refine ⟨by decide, ?_⟩
  refine for_rng (fun i ρ => ∃ x1 x2 x3 x4 x5 x6 x7 x8 : Option S, ρ = [some (.d .jar), x1, x2, x3, x4, x5, x6, x7, x8, none]) ⟨none, none, none, none, none, none, none, none, rfl⟩ ?_ ?_
  · rintro i ρ N hi ⟨x1, x2, x3, x4, x5, x6, x7, x8, rfl⟩ hN
    walk_at "dl"
    refine ⟨5, rfl, by decide, fun s hg => ?_⟩
    walk_at "dl"
    refine ⟨pow_30, pow_6, ?_⟩
    refine ⟨_, rfl, ⟨by decide +kernel, by decide +kernel⟩, fun r hr0 hr1 => ?_⟩
    walk_at "dl"
    refine ⟨_, rfl, ⟨by simp, by simp⟩, fun d hd => ?_⟩
    obtain ⟨b, rfl⟩ : ∃ b, d = .int b := by
      simp only [List.mem_cons, List.not_mem_nil, or_false] at hd
      rcases hd with h | h | h | h <;> exact ⟨_, h⟩
    clear hd
    have hl40 := hg.len
    refine ⟨noOwn_of rfl, lc_ints (fun n => n + b) (fun n _ acc K ha hK => ?_) (Nat.le_trans (Nat.le_trans hl40 (by decide)) sizeLine_big) ?_⟩
    · walk_at "dl"
      exact ⟨ha, hK⟩
    · refine for_map (fun l ρ => ∃ (pre : List (Int × Int)) (x7 x8 : Option S), pre ++ l = s ∧ ρ = [some (.d .jar), some (.d (.int i)), some (.d (tI (Lf s))), some (.d (stepsD s)), some (.d (.int b)), some (.d (.int (prodL pre))), some (.d (tI ((Lf s).map fun n => n + b))), x7, x8, none]) ⟨[], x7, x8, rfl, rfl⟩ ?_ ?_
      · rintro p l ρ N ⟨pre, x7, x8, e, rfl⟩ hN
        obtain ⟨p1, p2⟩ := p
        have hp : (p1, p2) ∈ s := by rw [← e]; simp
        have h2 := hg.two _ hp
        have h4 := hg.four _ hp
        walk_at "dl"
        simp only [sD]; walk_at "dl"
        refine ⟨by walk_at "mo", hN _ ⟨pre ++ [(p1, p2)], some (.d (.int p1)), some (.d (.int p2)), by simpa using e, ?_⟩⟩
        rw [prodL_append]
        simp [prodL]
      · rintro ρ ⟨pre, x7, x8, e, rfl⟩
        rw [List.append_nil] at e
        subst e
        obtain ⟨hm, hlo⟩ := hg.moved b
        have hown := hg.own
        have hni := hg.nice (n := 0)
        have hpr := hg.prod
        walk_at "dl"
        refine ⟨_, rfl, hlo, ?_⟩
        rw [hm, hown]
        walk_at "dl"
        refine ⟨_, rfl, hlo, ?_⟩
        rw [hm, hown]
        walk_at "dl"
        simp only [Option.map_some, optD, Option.getD_some]
        have hL : (D.lst [stepsD pre, stepsD pre]).nice 3 = true := nice_lst fun d hd => by
          simp only [List.mem_cons, List.not_mem_nil, or_false, or_self] at hd
          rw [hd]; exact hni
        have hW : (D.lst [stepsD pre, stepsD pre]).wt ≤ 200000 := by
          have w1 : (stepsD pre).wt ≤ 403 * 80 := by
            rw [D.wt]
            refine Nat.le_trans (wtA_le (w := 402) fun d hd => ?_) ?_
            · obtain ⟨p, _, rfl⟩ := List.mem_map.mp hd
              simp [D.wt, D.wtA, sD]
            · have := hg.many
              rw [List.length_map]
              exact Nat.mul_le_mul_left 403 this
          simp only [D.wt, D.wtA] at w1 ⊢
          omega
        refine repr_of hL (by decide) hW (repr_of hL (by decide) hW ?_)
        walk_at "dl"
        refine ⟨_, rfl, hlo, ?_⟩
        rw [hm, hown]
        refine ⟨_, rfl, hlo, ?_⟩
        rw [hm, hown]
        refine repr_of (d := D.lst [.bl true, .bl true]) (n := 2) (by decide) (by decide) (by decide) ?_
        have e1 : (D.lst [.bl true, .bl true]).py.shown = Str.ofString "[True, True]" := by decide +kernel
        rw [e1]
        walk_at "dl"
        have hrg : ∀ l, own (movedI ((Lf pre).map fun n => n + b)) = some l → RungOk l := fun l hl => by
          rw [hm, hown] at hl
          cases hl
          exact hg.rung
        refine ⟨_, rfl, hlo, hrg, ?_⟩
        rw [hm, hown]
        refine ⟨_, rfl, hlo, hrg, ?_⟩
        rw [hm, hown]
        have hS : (prodL pre).natAbs < 2 ^ 200 := by omega
        have hL2 : (D.lst [.int (prodL pre), .int (prodL pre)]).nice 1 = true := nice_lst fun d hd => by
          simp only [List.mem_cons, List.not_mem_nil, or_false, or_self] at hd
          rw [hd]; exact nice_int hS
        have hW2 : (D.lst [.int (prodL pre), .int (prodL pre)]).wt ≤ 200000 := by simp [D.wt, D.wtA]
        refine repr_of hL2 (by decide) hW2 (repr_of hL2 (by decide) hW2 ?_)
        walk_at "dl"
        rw [if_pos]
        · exact hN _ ⟨_, _, _, _, _, _, _, _, rfl⟩
        · rfl
  · rintro ρ ⟨x1, x2, x3, x4, x5, x6, x7, x8, rfl⟩
    walk_at "dl"
    have gn : Good [] := ⟨trivial, by simp, by simp, by decide, by decide, by simp⟩
    refine ⟨(Lf []).map (· + 5), rfl, (gn.moved 5).2, ?_⟩
    rw [(gn.moved 5).1, gn.own]
    refine ⟨(Lf []).map (· + 5), rfl, (gn.moved 5).2, fun l hl => ?_, ?_⟩
    · rw [(gn.moved 5).1, gn.own] at hl
      cases hl
      exact gn.rung
    rw [(gn.moved 5).1, gn.own]
    refine ⟨(Lf []).map (· + -8), rfl, (gn.moved (-8)).2, ?_⟩
    rw [(gn.moved (-8)).1, gn.own]
    exact eq_self (n := 2) (by decide +kernel) (by decide) h
theorem h_law : ∀ (Z : Exn → Prop) (ds : List D) (R : S → Prop), ds.length = 1 → wf_law Z ds R → b_law ⟨fun _ => R (.d .non), R, fun _ => False, fun _ => False, fun x _ => Z x⟩ (rho0 [(Str.ofString "_law_script"), (Str.ofString "_law_k")] ds) := by
  rintro Z _ R _ ⟨ns, rfl, h⟩
  simp only [b_law]; walk_at "dl"
  generalize hq : (if (if 5 < (ns.length : Int) then 5 else (ns.length : Int)) > 2 then if 5 < (ns.length : Int) then 5 else (ns.length : Int) else 2) = q
  have hq2 : 2 ≤ q ∧ q ≤ 5 := by rw [← hq]; split <;> split <;> omega
  refine ⟨⟨by omega, by omega⟩, ?_⟩
  refine for_rng (fun i ρ => ∃ x, ρ = [some (.d (.rls (ns.map .int))), x]) ⟨_, rfl⟩ ?_ ?_
  · rintro i ρ N hi ⟨x, rfl⟩ hN
    walk_at "dl"
    refine ⟨ns, _, rfl, by omega, ?_⟩
    refine ⟨rfl, ?_⟩
    walk_at "dl"
    exact hN _ ⟨_, rfl⟩
  · rintro ρ ⟨x, rfl⟩
    walk_at "dl"
    exact h

def top (i : Nat) : Stmt := PySem.Challenge.pw_onesums_k16_whole_own_ladders_told_back.main.body.getD i (.Pass ⟨0, 0, 0, 0⟩)
/-- what the top has left beside the defs -/
structure Top (mg : Str → Option Value) : Prop where
  n_abs : mg (Str.ofString "abs") = none
  n_all : mg (Str.ofString "all") = none
  n_bool : mg (Str.ofString "bool") = none
  n_int : mg (Str.ofString "int") = none
  n_isinstance : mg (Str.ofString "isinstance") = none
  n_len : mg (Str.ofString "len") = none
  n_max : mg (Str.ofString "max") = none
  n_min : mg (Str.ofString "min") = none
  n_range : mg (Str.ofString "range") = none
  n_repr : mg (Str.ofString "repr") = none
  n_sorted : mg (Str.ofString "sorted") = none
  n_tuple : mg (Str.ofString "tuple") = none
  c_MOST_NUMBERS : ∃ t, mg (Str.ofString "MOST_NUMBERS") = some (.int (40) t)
  c_OTHERS : ∃ t, mg (Str.ofString "OTHERS") = some (.int (1) t)
  c_OWN : ∃ t, mg (Str.ofString "OWN") = some (.int (0) t)
abbrev s_is_integer : Stmt := top 5
theorem sc_is_integer : FnScope [(Str.ofString "value")] [(Str.ofString "value")] (defScope s_is_integer) := ⟨rfl, rfl, rfl, by decide +kernel, rfl, by decide +kernel, by decide +kernel⟩
theorem d_is_integer {P : Program} {w : World} {K : PySem.W.Frag} {mg : Str → Option Value} {base : Heap} (r : Raw K mg (Str.ofString "is_integer") s_is_integer) (T : Top mg) : Df P w K mg base 1 (Str.ofString "is_integer") s_is_integer [(Str.ofString "value")] wf_is_integer :=
  have nd := sc_is_integer.nd
  df_of r sc_is_integer (fun _ _ _ _ _ _ us hl => match us, hl with | [_], _ => rfl) h_is_integer (fun f cdv A outer s H E W C =>
  (dss_one (ds_ret (de_and (de_callB call_isi cd_isi (by rfl) T.n_isinstance (by decide +kernel) (da_cons (de_var 0) (da_cons (de_bty (by rfl) T.n_int (by decide +kernel)) da_nil))) (de_one (de_not (de_callB call_isi cd_isi (by rfl) T.n_isinstance (by decide +kernel) (da_cons (de_var 0) (da_cons (de_bty (by rfl) T.n_bool (by decide +kernel)) da_nil)))))))))
abbrev s_is_list : Stmt := top 6
theorem sc_is_list : FnScope [(Str.ofString "value"), (Str.ofString "number"), (Str.ofString "k")] [(Str.ofString "value")] (defScope s_is_list) := ⟨rfl, rfl, rfl, by decide +kernel, rfl, by decide +kernel, by decide +kernel⟩
theorem d_is_list {P : Program} {w : World} {K : PySem.W.Frag} {mg : Str → Option Value} {base : Heap} (r : Raw K mg (Str.ofString "is_list") s_is_list) (T : Top mg) (D_is_integer : Df P w K mg base 1 (Str.ofString "is_integer") s_is_integer [(Str.ofString "value")] wf_is_integer) : Df P w K mg base 2 (Str.ofString "is_list") s_is_list [(Str.ofString "value")] wf_is_list :=
  have nd := sc_is_list.nd
  df_of r sc_is_list (fun _ _ _ _ _ _ us hl => match us, hl with | [_], _ => rfl) h_is_list (fun f cdv A outer s H E W C =>
  (dss_cons (ds_if (DW.pt (dw_or (dt_not (dt_val (de_callB call_isi cd_isi (by rfl) T.n_isinstance (by decide +kernel) (da_cons (de_var 0) (da_cons (de_bty (by rfl) T.n_tuple (by decide +kernel)) da_nil))))) (dw_or1 (dt_not (dt_chain op_le op_le od_le od_le de_int (de_callB call_len cd_len (by rfl) T.n_len (by decide +kernel) (da_cons (de_var 0) da_nil)) (de_gintE T.c_MOST_NUMBERS)))))) (dss_one (ds_ret de_bl)) dss_nil)
  (dss_cons (ds_if (dt_not (dt_val (de_callB (cr_all rfl) cd_all (by rfl) T.n_all (by decide +kernel) (da_cons (de_lc (own := [((Str.ofString "number"), 1)]) nd (di_seq (de_var 0)) (blkOk_by (by kernel_rfl)) (fun _ _ _ _ _ => (tg_name nd)) (tin_name (by decide)) (fun _ _ _ _ _ => dts_nil) (fun _ _ _ _ _ => (de_callD (C.blk _ _ _ _ _ PassesOwn.never) D_is_integer (by decide) (da_cons (de_var 1) da_nil)))) da_nil)))) (dss_one (ds_ret de_bl)) dss_nil)
  (dss_one (ds_ret (de_callB (cr_all rfl) cd_all (by rfl) T.n_all (by decide +kernel) (da_cons (de_lc (own := [((Str.ofString "k"), 2)]) nd (di_range1 (da_cons (de_op op_sub od_sub (de_callB call_len cd_len (by rfl) T.n_len (by decide +kernel) (da_cons (de_var 0) da_nil)) de_int) da_nil) (by rfl) T.n_range) (blkOk_by (by kernel_rfl)) (fun _ _ _ _ _ => (tg_name nd)) (tin_name (by decide)) (fun _ _ _ _ _ => dts_nil) (fun _ _ _ _ _ => (de_cmp op_lt od_lt (de_ixV 0 (de_var 2)) (de_ixV 0 (de_op or_add od_add (de_var 2) de_int)) (nomark _)))) da_nil)))))))
abbrev s_check_list : Stmt := top 7
theorem sc_check_list : FnScope [(Str.ofString "value")] [(Str.ofString "value")] (defScope s_check_list) := ⟨rfl, rfl, rfl, by decide +kernel, rfl, by decide +kernel, by decide +kernel⟩
theorem d_check_list {P : Program} {w : World} {K : PySem.W.Frag} {mg : Str → Option Value} {base : Heap} (r : Raw K mg (Str.ofString "check_list") s_check_list) (T : Top mg) (D_is_list : Df P w K mg base 2 (Str.ofString "is_list") s_is_list [(Str.ofString "value")] wf_is_list) : Df P w K mg base 3 (Str.ofString "check_list") s_check_list [(Str.ofString "value")] wf_check_list :=
  have nd := sc_check_list.nd
  df_of r sc_check_list (fun _ _ _ _ _ _ us hl => match us, hl with | [_], _ => rfl) h_check_list (fun f cdv A outer s H E W C =>
  (dss_one (ds_if (dt_not (dt_val (de_callD C D_is_list (by decide) (da_cons (de_var 0) da_nil)))) (dss_one ds_never) dss_nil)))
abbrev s_moved : Stmt := top 8
theorem sc_moved : FnScope [(Str.ofString "numbers"), (Str.ofString "number")] [(Str.ofString "numbers")] (defScope s_moved) := ⟨rfl, rfl, rfl, by decide +kernel, rfl, by decide +kernel, by decide +kernel⟩
theorem d_moved {P : Program} {w : World} {K : PySem.W.Frag} {mg : Str → Option Value} {base : Heap} (r : Raw K mg (Str.ofString "moved") s_moved) (T : Top mg) : Df P w K mg base 1 (Str.ofString "moved") s_moved [(Str.ofString "numbers")] wf_moved :=
  have nd := sc_moved.nd
  df_of r sc_moved (fun _ _ _ _ _ _ us hl => match us, hl with | [_], _ => rfl) h_moved (fun f cdv A outer s H E W C =>
  (dss_one (ds_ret (de_callTy call_tuple_of cd_tuple (by rfl) T.n_tuple (by decide +kernel) (da_cons (de_lc (own := [((Str.ofString "number"), 1)]) nd (di_seq (de_var 0)) (blkOk_by (by kernel_rfl)) (fun _ _ _ _ _ => (tg_name nd)) (tin_name (by decide)) (fun _ _ _ _ _ => dts_nil) (fun _ _ _ _ _ => (de_op op_sub od_sub (de_var 1) (de_ixV 0 de_int)))) da_nil)))))
abbrev s_run_of : Stmt := top 10
theorem sc_run_of : FnScope [(Str.ofString "numbers"), (Str.ofString "found")] [(Str.ofString "numbers")] (defScope s_run_of) := ⟨rfl, rfl, rfl, by decide +kernel, rfl, by decide +kernel, by decide +kernel⟩
theorem d_run_of {P : Program} {w : World} {K : PySem.W.Frag} {mg : Str → Option Value} {base : Heap} (r : Raw K mg (Str.ofString "run_of") s_run_of) (T : Top mg) : Df P w K mg base 1 (Str.ofString "run_of") s_run_of [(Str.ofString "numbers")] wf_run_of :=
  have nd := sc_run_of.nd
  df_of r sc_run_of (fun _ _ _ _ _ _ us hl => match us, hl with | [_], _ => rfl) h_run_of (fun f cdv A outer s H E W C =>
  (dss_cons (ds_set nd de_int)
  (dss_cons (ds_while C.po (DW.pt (dw_and (dt_cmp op_lt od_lt (de_var 1) (de_callB call_len cd_len (by rfl) T.n_len (by decide +kernel) (da_cons (de_var 0) da_nil)) (nomark _)) (dw_and1 (dt_cmp (or_eqA C.u64) od_eq (de_ixV 0 (de_var 1)) (de_var 1) (nomark _))))) (dss_one (ds_set nd (de_op or_add od_add (de_var 1) de_int))))
  (dss_one (ds_ret (de_var 1))))))
abbrev s_without_blocks : Stmt := top 11
theorem sc_without_blocks : FnScope [(Str.ofString "numbers"), (Str.ofString "many"), (Str.ofString "found"), (Str.ofString "at")] [(Str.ofString "numbers"), (Str.ofString "many")] (defScope s_without_blocks) := ⟨rfl, rfl, rfl, by decide +kernel, rfl, by decide +kernel, by decide +kernel⟩
theorem d_without_blocks {P : Program} {w : World} {K : PySem.W.Frag} {mg : Str → Option Value} {base : Heap} (r : Raw K mg (Str.ofString "without_blocks") s_without_blocks) (T : Top mg) : Df P w K mg base 1 (Str.ofString "without_blocks") s_without_blocks [(Str.ofString "numbers"), (Str.ofString "many")] wf_without_blocks :=
  have nd := sc_without_blocks.nd
  df_of r sc_without_blocks (fun _ _ _ _ _ _ us hl => match us, hl with | [_, _], _ => rfl) h_without_blocks (fun f cdv A outer s H E W C =>
  (dss_cons (ds_if (dt_cmp (or_neA C.u64) od_ne (de_op op_modN od_mod (de_callB call_len cd_len (by rfl) T.n_len (by decide +kernel) (da_cons (de_var 0) da_nil)) (de_var 1)) de_int (nomark _)) (dss_one (ds_ret de_non)) dss_nil)
  (dss_cons (ds_set nd (de_lst da_nil))
  (dss_cons (ds_for C.po (di_range3 (da_cons de_int (da_cons (de_callB call_len cd_len (by rfl) T.n_len (by decide +kernel) (da_cons (de_var 0) da_nil)) (da_cons (de_var 1) da_nil))) (by rfl) T.n_range) (tg_name nd) (dss_cons (ds_if (DW.pt (dw_or (dt_cmp (or_neA C.u64) od_ne (de_op op_modN od_mod (de_ixV 0 (de_var 3)) (de_var 1)) de_int (nomark _)) (dw_or1 (dt_cmp (or_neA C.u64) od_ne (de_ixV 0 (de_op op_sub od_sub (de_op or_add od_add (de_var 3) (de_var 1)) de_int)) (de_op op_sub od_sub (de_op or_add od_add (de_ixV 0 (de_var 3)) (de_var 1)) de_int) (nomark _))))) (dss_one (ds_ret de_non)) dss_nil)
  (dss_one (ds_app 2 (de_op or_div od_div (de_ixV 0 (de_var 3)) (de_var 1))))))
  (dss_one (ds_ret (de_callTy call_tuple_of cd_tuple (by rfl) T.n_tuple (by decide +kernel) (da_cons (de_var 2) da_nil))))))))
abbrev s_divided : Stmt := top 12
theorem sc_divided : FnScope [(Str.ofString "numbers"), (Str.ofString "many"), (Str.ofString "number")] [(Str.ofString "numbers"), (Str.ofString "many")] (defScope s_divided) := ⟨rfl, rfl, rfl, by decide +kernel, rfl, by decide +kernel, by decide +kernel⟩
theorem d_divided {P : Program} {w : World} {K : PySem.W.Frag} {mg : Str → Option Value} {base : Heap} (r : Raw K mg (Str.ofString "divided") s_divided) (T : Top mg) : Df P w K mg base 1 (Str.ofString "divided") s_divided [(Str.ofString "numbers"), (Str.ofString "many")] wf_divided :=
  have nd := sc_divided.nd
  df_of r sc_divided (fun _ _ _ _ _ _ us hl => match us, hl with | [_, _], _ => rfl) h_divided (fun f cdv A outer s H E W C =>
  (dss_cons (ds_if (dt_not (dt_val (de_callB (cr_all rfl) cd_all (by rfl) T.n_all (by decide +kernel) (da_cons (de_lc (own := [((Str.ofString "number"), 2)]) nd (di_seq (de_var 0)) (blkOk_by (by kernel_rfl)) (fun _ _ _ _ _ => (tg_name nd)) (tin_name (by decide)) (fun _ _ _ _ _ => dts_nil) (fun _ _ _ _ _ => (de_cmp (or_eqA (C.blk _ _ _ _ _ PassesOwn.never).u64) od_eq (de_op op_modN od_mod (de_var 2) (de_var 1)) de_int (nomark _)))) da_nil)))) (dss_one (ds_ret de_non)) dss_nil)
  (dss_one (ds_ret (de_callTy call_tuple_of cd_tuple (by rfl) T.n_tuple (by decide +kernel) (da_cons (de_lc (own := [((Str.ofString "number"), 2)]) nd (di_seq (de_var 0)) (blkOk_by (by kernel_rfl)) (fun _ _ _ _ _ => (tg_name nd)) (tin_name (by decide)) (fun _ _ _ _ _ => dts_nil) (fun _ _ _ _ _ => (de_op or_div od_div (de_var 2) (de_var 1)))) da_nil))))))
abbrev s_rungs_of : Stmt := top 13
theorem sc_rungs_of : FnScope [(Str.ofString "steps"), (Str.ofString "found"), (Str.ofString "step")] [(Str.ofString "steps")] (defScope s_rungs_of) := ⟨rfl, rfl, rfl, by decide +kernel, rfl, by decide +kernel, by decide +kernel⟩
theorem d_rungs_of {P : Program} {w : World} {K : PySem.W.Frag} {mg : Str → Option Value} {base : Heap} (r : Raw K mg (Str.ofString "rungs_of") s_rungs_of) (T : Top mg) : Df P w K mg base 1 (Str.ofString "rungs_of") s_rungs_of [(Str.ofString "steps")] wf_rungs_of :=
  have nd := sc_rungs_of.nd
  df_of r sc_rungs_of (fun _ _ _ _ _ _ us hl => match us, hl with | [_], _ => rfl) h_rungs_of (fun f cdv A outer s H E W C =>
  (dss_cons (ds_set nd (de_lst (da_cons de_int da_nil)))
  (dss_cons (ds_for C.po (di_seq (de_var 0)) (tg_name nd) (dss_one (ds_app 1 (de_op or_mul od_mul (de_ixV 1 (de_neg de_int)) (de_ixV 2 de_int)))))
  (dss_one (ds_ret (de_callTy call_tuple_of cd_tuple (by rfl) T.n_tuple (by decide +kernel) (da_cons (de_var 1) da_nil)))))))
abbrev s_own_ladder_of : Stmt := top 17
theorem sc_own_ladder_of : FnScope [(Str.ofString "numbers"), (Str.ofString "found"), (Str.ofString "left")] [(Str.ofString "numbers")] (defScope s_own_ladder_of) := ⟨rfl, rfl, rfl, by decide +kernel, rfl, by decide +kernel, by decide +kernel⟩
theorem d_own_ladder_of {P : Program} {w : World} {K : PySem.W.Frag} {mg : Str → Option Value} {base : Heap} (r : Raw K mg (Str.ofString "own_ladder_of") s_own_ladder_of) (T : Top mg) (D_divided : Df P w K mg base 1 (Str.ofString "divided") s_divided [(Str.ofString "numbers"), (Str.ofString "many")] wf_divided) (D_run_of : Df P w K mg base 1 (Str.ofString "run_of") s_run_of [(Str.ofString "numbers")] wf_run_of) (D_without_blocks : Df P w K mg base 1 (Str.ofString "without_blocks") s_without_blocks [(Str.ofString "numbers"), (Str.ofString "many")] wf_without_blocks) : Df P w K mg base 2 (Str.ofString "own_ladder_of") s_own_ladder_of [(Str.ofString "numbers")] wf_own_ladder_of :=
  have nd := sc_own_ladder_of.nd
  df_of r sc_own_ladder_of (fun _ _ _ _ _ _ us hl => match us, hl with | [_], _ => rfl) h_own_ladder_of (fun f cdv A outer s H E W C =>
  (dss_cons (ds_par nd (de_lst da_nil) (de_var 0))
  (dss_cons (ds_while C.po (DW.pt (dw_and (dt_notN (de_var 2)) (dw_and1 (dt_cmp (or_neA C.u64) od_ne (de_var 2) (de_tup (da_cons de_int da_nil)) (nomark _))))) (dss_one (ds_if (dt_cmp (or_eqA C.u64) od_eq (de_ixV 2 de_int) de_int (nomark _)) (dss_cons (ds_app 1 (de_tup (da_cons (de_callD C D_run_of (by decide) (da_cons (de_var 2) da_nil)) (da_cons (de_gintE T.c_OWN) da_nil))))
  (dss_one (ds_set nd (de_callD C D_without_blocks (by decide) (da_cons (de_var 2) (da_cons (de_ix (de_ixV 1 (de_neg de_int)) de_int) da_nil)))))) (dss_cons (ds_app 1 (de_tup (da_cons (de_ixV 2 de_int) (da_cons (de_gintE T.c_OTHERS) da_nil))))
  (dss_one (ds_set nd (de_callD C D_divided (by decide) (da_cons (de_var 2) (da_cons (de_ixV 2 de_int) da_nil)))))))))
  (dss_one (ds_ret (de_if (dt_isN (de_var 2)) de_non (de_callTy call_tuple_of cd_tuple (by rfl) T.n_tuple (by decide +kernel) (da_cons (de_var 1) da_nil))))))))
abbrev s_own_ladder : Stmt := top 18
theorem sc_own_ladder : FnScope [(Str.ofString "numbers")] [(Str.ofString "numbers")] (defScope s_own_ladder) := ⟨rfl, rfl, rfl, by decide +kernel, rfl, by decide +kernel, by decide +kernel⟩
theorem d_own_ladder {P : Program} {w : World} {K : PySem.W.Frag} {mg : Str → Option Value} {base : Heap} (r : Raw K mg (Str.ofString "own_ladder") s_own_ladder) (T : Top mg) (D_check_list : Df P w K mg base 3 (Str.ofString "check_list") s_check_list [(Str.ofString "value")] wf_check_list) (D_moved : Df P w K mg base 1 (Str.ofString "moved") s_moved [(Str.ofString "numbers")] wf_moved) (D_own_ladder_of : Df P w K mg base 2 (Str.ofString "own_ladder_of") s_own_ladder_of [(Str.ofString "numbers")] wf_own_ladder_of) : Df P w K mg base 4 (Str.ofString "own_ladder") s_own_ladder [(Str.ofString "numbers")] wf_own_ladder :=
  have nd := sc_own_ladder.nd
  df_of r sc_own_ladder (fun _ _ _ _ _ _ us hl => match us, hl with | [_], _ => rfl) h_own_ladder (fun f cdv A outer s H E W C =>
  (dss_cons (ds_expr (de_callD C D_check_list (by decide) (da_cons (de_var 0) da_nil)))
  (dss_one (ds_ret (de_callD C D_own_ladder_of (by decide) (da_cons (de_callD C D_moved (by decide) (da_cons (de_var 0) da_nil)) da_nil))))))
abbrev s_joins : Stmt := top 19
theorem sc_joins : FnScope [(Str.ofString "numbers")] [(Str.ofString "numbers")] (defScope s_joins) := ⟨rfl, rfl, rfl, by decide +kernel, rfl, by decide +kernel, by decide +kernel⟩
theorem d_joins {P : Program} {w : World} {K : PySem.W.Frag} {mg : Str → Option Value} {base : Heap} (r : Raw K mg (Str.ofString "joins") s_joins) (T : Top mg) (D_own_ladder : Df P w K mg base 4 (Str.ofString "own_ladder") s_own_ladder [(Str.ofString "numbers")] wf_own_ladder) : Df P w K mg base 5 (Str.ofString "joins") s_joins [(Str.ofString "numbers")] wf_joins :=
  have nd := sc_joins.nd
  df_of r sc_joins (fun _ _ _ _ _ _ us hl => match us, hl with | [_], _ => rfl) h_joins (fun f cdv A outer s H E W C =>
  (dss_one (ds_ret (de_notN (de_callD C D_own_ladder (by decide) (da_cons (de_var 0) da_nil))))))
abbrev s_least_size : Stmt := top 20
theorem sc_least_size : FnScope [(Str.ofString "numbers"), (Str.ofString "steps")] [(Str.ofString "numbers")] (defScope s_least_size) := ⟨rfl, rfl, rfl, by decide +kernel, rfl, by decide +kernel, by decide +kernel⟩
theorem d_least_size {P : Program} {w : World} {K : PySem.W.Frag} {mg : Str → Option Value} {base : Heap} (r : Raw K mg (Str.ofString "least_size") s_least_size) (T : Top mg) (D_own_ladder : Df P w K mg base 4 (Str.ofString "own_ladder") s_own_ladder [(Str.ofString "numbers")] wf_own_ladder) (D_rungs_of : Df P w K mg base 1 (Str.ofString "rungs_of") s_rungs_of [(Str.ofString "steps")] wf_rungs_of) : Df P w K mg base 5 (Str.ofString "least_size") s_least_size [(Str.ofString "numbers")] wf_least_size :=
  have nd := sc_least_size.nd
  df_of r sc_least_size (fun _ _ _ _ _ _ us hl => match us, hl with | [_], _ => rfl) h_least_size (fun f cdv A outer s H E W C =>
  (dss_cons (ds_set nd (de_callD C D_own_ladder (by decide) (da_cons (de_var 0) da_nil)))
  (dss_one (ds_ret (de_if (dt_isN (de_var 1)) de_non (de_ix (de_callD C D_rungs_of (by decide) (da_cons (de_var 1) da_nil)) (de_neg de_int)))))))
abbrev s_law_jar : Stmt := top 22
theorem sc_law_jar : FnScope [(Str.ofString "_law_script"), (Str.ofString "_law_k"), (Str.ofString "_law_churned"), (Str.ofString "_law_cell"), (Str.ofString "_law_own"), (Str.ofString "_law_digits")] [(Str.ofString "_law_script"), (Str.ofString "_law_k")] (defScope s_law_jar) := ⟨rfl, rfl, rfl, by decide +kernel, rfl, by decide +kernel, by decide +kernel⟩
theorem d_law_jar {P : Program} {w : World} {K : PySem.W.Frag} {mg : Str → Option Value} {base : Heap} (r : Raw K mg (Str.ofString "_law_jar") s_law_jar) (T : Top mg) : Df P w K mg base 1 (Str.ofString "_law_jar") s_law_jar [(Str.ofString "_law_script"), (Str.ofString "_law_k")] wf0_law_jar :=
  have nd := sc_law_jar.nd
  df_of r sc_law_jar (fun _ _ _ _ _ _ us hl => match us, hl with | [_, _], _ => rfl) h_law_jar (fun f cdv A outer s H E W C =>
  (dss_cons (ds_set nd (de_op or_add od_add (de_op or_mul od_mul (de_op or_mul od_mul de_int (de_op or_add od_add (de_var 1) de_int)) (de_op or_add od_add (de_var 1) de_int)) (de_op or_mul od_mul de_int (de_callB call_len cd_len (by rfl) T.n_len (by decide +kernel) (da_cons (de_var 0) da_nil)))))
  (dss_cons (ds_for C.po (di_seq (de_sl (de_var 0) do_none (do_some de_int))) (tg_name nd) (dss_one (ds_set nd (de_op op_modN od_mod (de_callTy call_int1 cd_int (by rfl) T.n_int (by decide +kernel) (da_cons (de_op or_add od_add (de_op or_mul od_mul (de_var 2) de_int) (de_var 3)) da_nil)) de_int))))
  (dss_cons (ds_set nd (de_if (dt_cmp op_lt od_lt (de_var 1) (de_callB call_len cd_len (by rfl) T.n_len (by decide +kernel) (da_cons (de_var 0) da_nil)) (nomark _)) (de_ixV 0 (de_var 1)) de_int))
  (dss_cons (ds_set nd (de_if (DW.pt (dw_or (dt_cmp op_lt od_lt (de_var 4) de_int (nomark _)) (dw_or1 (dt_cmp op_ge od_ge (de_var 4) (de_op op_pow od_pow de_int de_int) (nomark _))))) (de_callB call_abs cd_abs (by rfl) T.n_abs (by decide +kernel) (da_cons (de_var 4) da_nil)) de_int))
  (dss_one (ds_ret (de_lst (da_cons (de_var 5) (da_cons (de_op op_modN od_mod (de_callTy call_int1 cd_int (by rfl) T.n_int (by decide +kernel) (da_cons (de_op or_add od_add (de_op or_add od_add (de_op or_mul od_mul (de_var 2) de_int) (de_op or_mul od_mul (de_var 4) de_int)) (de_op or_mul od_mul de_int (de_op or_add od_add (de_var 1) de_int))) da_nil)) de_int) (da_cons de_int da_nil)))))))))))
abbrev s_law_dip : Stmt := top 23
theorem sc_law_dip : FnScope [(Str.ofString "_law_jar_here"), (Str.ofString "_law_wide"), (Str.ofString "_law_digit"), (Str.ofString "_law_seed")] [(Str.ofString "_law_jar_here"), (Str.ofString "_law_wide")] (defScope s_law_dip) := ⟨rfl, rfl, rfl, by decide +kernel, rfl, by decide +kernel, by decide +kernel⟩
theorem d_law_dip {P : Program} {w : World} {K : PySem.W.Frag} {mg : Str → Option Value} {base : Heap} (r : Raw K mg (Str.ofString "_law_dip") s_law_dip) (T : Top mg) : Df P w K mg base 1 (Str.ofString "_law_dip") s_law_dip [(Str.ofString "_law_jar_here"), (Str.ofString "_law_wide")] wf_law_dip :=
  have nd := sc_law_dip.nd
  df_of r sc_law_dip (fun _ _ _ _ _ _ us hl => match us, hl with | [_, _], _ => rfl) h_law_dip (fun f cdv A outer s H E W C =>
  (dss_cons (ds_setIx 0 (de_op or_add od_add (de_ixV 0 de_int) de_int) de_int)
  (dss_cons (ds_if (dt_cmp op_gt od_gt (de_ixV 0 de_int) de_int (nomark _)) (dss_cons (ds_set nd (de_op op_modN od_mod (de_callTy call_int1 cd_int (by rfl) T.n_int (by decide +kernel) (da_cons (de_ixV 0 de_int) da_nil)) (de_var 1)))
  (dss_cons (ds_setIx 0 (de_op or_div od_div (de_callTy call_int1 cd_int (by rfl) T.n_int (by decide +kernel) (da_cons (de_ixV 0 de_int) da_nil)) (de_var 1)) de_int)
  (dss_one (ds_ret (de_var 2))))) dss_nil)
  (dss_cons (ds_set nd (de_callTy call_int1 cd_int (by rfl) T.n_int (by decide +kernel) (da_cons (de_ixV 0 de_int) da_nil)))
  (dss_cons (ds_setIx 0 (de_op op_modN od_mod (de_callTy call_int1 cd_int (by rfl) T.n_int (by decide +kernel) (da_cons (de_op or_add od_add (de_op or_add od_add (de_op or_mul od_mul (de_var 3) de_int) (de_op or_mul od_mul (de_ixV 0 de_int) de_int)) de_int) da_nil)) de_int) de_int)
  (dss_one (ds_ret (de_op op_modN od_mod (de_callTy call_int1 cd_int (by rfl) T.n_int (by decide +kernel) (da_cons (de_op or_div od_div (de_ixV 0 de_int) de_int) da_nil)) (de_var 1)))))))))
abbrev s_law_pick : Stmt := top 24
theorem sc_law_pick : FnScope [(Str.ofString "_law_jar_here"), (Str.ofString "_law_menu"), (Str.ofString "_law_at")] [(Str.ofString "_law_jar_here"), (Str.ofString "_law_menu")] (defScope s_law_pick) := ⟨rfl, rfl, rfl, by decide +kernel, rfl, by decide +kernel, by decide +kernel⟩
theorem d_law_pick {P : Program} {w : World} {K : PySem.W.Frag} {mg : Str → Option Value} {base : Heap} (r : Raw K mg (Str.ofString "_law_pick") s_law_pick) (T : Top mg) (D_law_dip : Df P w K mg base 1 (Str.ofString "_law_dip") s_law_dip [(Str.ofString "_law_jar_here"), (Str.ofString "_law_wide")] wf_law_dip) : Df P w K mg base 2 (Str.ofString "_law_pick") s_law_pick [(Str.ofString "_law_jar_here"), (Str.ofString "_law_menu")] wf_law_pick :=
  have nd := sc_law_pick.nd
  df_of r sc_law_pick (fun _ _ _ _ _ _ us hl => match us, hl with | [_, _], _ => rfl) h_law_pick (fun f cdv A outer s H E W C =>
  (dss_cons (ds_set nd (de_callD C D_law_dip (by decide) (da_cons (de_var 0) (da_cons (de_callB call_len cd_len (by rfl) T.n_len (by decide +kernel) (da_cons (de_var 1) da_nil)) da_nil))))
  (dss_one (ds_ret (de_ixV 1 (de_var 2))))))
abbrev s_law_alternate : Stmt := top 25
theorem sc_law_alternate : FnScope [(Str.ofString "_law_jar_here"), (Str.ofString "_law_most_here"), (Str.ofString "_law_found"), (Str.ofString "_law_numbers_here"), (Str.ofString "_law_rung"), (Str.ofString "_law_turn"), (Str.ofString "_law_gap"), (Str.ofString "_law_wide"), (Str.ofString "_law_more"), (Str.ofString "_law_again"), (Str.ofString "_law_number")] [(Str.ofString "_law_jar_here"), (Str.ofString "_law_most_here")] (defScope s_law_alternate) := ⟨rfl, rfl, rfl, by decide +kernel, rfl, by decide +kernel, by decide +kernel⟩
theorem d_law_alternate {P : Program} {w : World} {K : PySem.W.Frag} {mg : Str → Option Value} {base : Heap} (r : Raw K mg (Str.ofString "_law_alternate") s_law_alternate) (T : Top mg) (D_law_dip : Df P w K mg base 1 (Str.ofString "_law_dip") s_law_dip [(Str.ofString "_law_jar_here"), (Str.ofString "_law_wide")] wf_law_dip) : Df P w K mg base 2 (Str.ofString "_law_alternate") s_law_alternate [(Str.ofString "_law_jar_here"), (Str.ofString "_law_most_here")] wf_law_alternate :=
  have nd := sc_law_alternate.nd
  df_of r sc_law_alternate (fun _ _ _ _ _ _ us hl => match us, hl with | [_, _], _ => rfl) h_law_alternate (fun f cdv A outer s H E W C =>
  (dss_cons (ds_parT3 nd (de_lst da_nil) (de_tup (da_cons de_int da_nil)) de_int (pgs_nm nd (pgs_nm nd (pgs_nm nd pgs_nm0))))
  (dss_cons (ds_for C.po (di_range1 (da_cons (de_callD C D_law_dip (by decide) (da_cons (de_var 0) (da_cons (de_op or_add od_add (de_var 1) de_int) da_nil))) da_nil) (by rfl) T.n_range) (tg_name nd) (dss_cons (ds_par nd (de_op or_add od_add de_int (de_callD C D_law_dip (by decide) (da_cons (de_var 0) (da_cons de_int da_nil)))) (de_op or_add od_add de_int (de_callD C D_law_dip (by decide) (da_cons (de_var 0) (da_cons de_int da_nil)))))
  (dss_one (ds_if (dt_cmp op_lt od_lt (de_op or_mul od_mul (de_callB call_len cd_len (by rfl) T.n_len (by decide +kernel) (da_cons (de_var 3) da_nil)) (de_var 7)) de_int (nomark _)) (dss_cons (ds_if (DW.pt (dw_or (DW.pt (dw_and (dt_cmp op_gt od_gt (de_var 5) de_int (nomark _)) (dw_and1 (dt_cmpV 2 (or_neA C.u64) op_p_ne (de_lst da_nil) (nomark _))))) (dw_or1 (dt_cmp (or_eqA C.u64) od_eq (de_callD C D_law_dip (by decide) (da_cons (de_var 0) (da_cons de_int da_nil))) de_int (nomark _))))) (dss_cons (ds_app 2 (de_tup (da_cons (de_var 6) (da_cons de_int da_nil))))
  (dss_one (ds_set nd (de_op or_mul od_mul (de_var 4) (de_var 6))))) dss_nil)
  (dss_cons (ds_set nd (de_lst da_nil))
  (dss_cons (ds_for C.po (di_range1 (da_cons (de_var 7) da_nil) (by rfl) T.n_range) (tg_name nd) (dss_one (ds_set nd (de_op or_add od_add (de_var 8) (de_lc (own := [((Str.ofString "_law_number"), 10)]) nd (di_seq (de_var 3)) (blkOk_by (by kernel_rfl)) (fun _ _ _ _ _ => (tg_name nd)) (tin_name (by decide)) (fun _ _ _ _ _ => dts_nil) (fun _ _ _ _ _ => (de_op or_add od_add (de_op or_mul od_mul (de_var 9) (de_var 4)) (de_var 10))))))))
  (dss_cons (ds_parT nd (de_callTy call_tuple_of cd_tuple (by rfl) T.n_tuple (by decide +kernel) (da_cons (de_callB cr_sortedI cd_sorted (by rfl) T.n_sorted (by decide +kernel) (da_cons (de_var 8) da_nil)) da_nil)) (de_op or_mul od_mul (de_var 4) (de_var 7)) (pgs_nm nd (pgs_nm nd pgs_nm0)))
  (dss_one (ds_app 2 (de_tup (da_cons (de_var 7) (da_cons de_int da_nil))))))))) dss_nil))))
  (dss_one (ds_ret (de_tup (da_cons (de_var 3) (da_cons (de_callTy call_tuple_of cd_tuple (by rfl) T.n_tuple (by decide +kernel) (da_cons (de_var 2) da_nil)) da_nil))))))))
abbrev s_law_right : Stmt := top 26
theorem sc_law_right : FnScope [(Str.ofString "_law_jar_here"), (Str.ofString "_law_turn"), (Str.ofString "_law_numbers_here"), (Str.ofString "_law_steps_here"), (Str.ofString "_law_by"), (Str.ofString "_law_size"), (Str.ofString "_law_there"), (Str.ofString "_law_wide"), (Str.ofString "_law_own"), (Str.ofString "_law_number")] [(Str.ofString "_law_jar_here")] (defScope s_law_right) := ⟨rfl, rfl, rfl, by decide +kernel, rfl, by decide +kernel, by decide +kernel⟩
theorem d_law_right {P : Program} {w : World} {K : PySem.W.Frag} {mg : Str → Option Value} {base : Heap} (r : Raw K mg (Str.ofString "_law_right") s_law_right) (T : Top mg) (D_law_alternate : Df P w K mg base 2 (Str.ofString "_law_alternate") s_law_alternate [(Str.ofString "_law_jar_here"), (Str.ofString "_law_most_here")] wf_law_alternate) (D_law_dip : Df P w K mg base 1 (Str.ofString "_law_dip") s_law_dip [(Str.ofString "_law_jar_here"), (Str.ofString "_law_wide")] wf_law_dip) (D_law_pick : Df P w K mg base 2 (Str.ofString "_law_pick") s_law_pick [(Str.ofString "_law_jar_here"), (Str.ofString "_law_menu")] wf_law_pick) (D_joins : Df P w K mg base 5 (Str.ofString "joins") s_joins [(Str.ofString "numbers")] wf_joins) (D_least_size : Df P w K mg base 5 (Str.ofString "least_size") s_least_size [(Str.ofString "numbers")] wf_least_size) (D_own_ladder : Df P w K mg base 4 (Str.ofString "own_ladder") s_own_ladder [(Str.ofString "numbers")] wf_own_ladder) : Df P w K mg base 6 (Str.ofString "_law_right") s_law_right [(Str.ofString "_law_jar_here")] wf_law_right :=
  have nd := sc_law_right.nd
  df_of r sc_law_right (fun _ _ _ _ _ _ us hl => match us, hl with | [_], _ => rfl) h_law_right (fun f cdv A outer s H E W C =>
  (dss_cons (ds_for C.po (di_range1 (da_cons de_int da_nil) (by rfl) T.n_range) (tg_name nd) (dss_cons (ds_asgN (de_callD C D_law_alternate (by decide) (da_cons (de_var 0) (da_cons de_int da_nil))) (tg_tup (pgs_nm nd (pgs_nm nd pgs_nm0))))
  (dss_cons (ds_parT nd (de_callD C D_law_pick (by decide) (da_cons (de_var 0) (da_cons (de_lst (da_cons de_int (da_cons de_int (da_cons (de_neg de_int) (da_cons (de_op op_sub od_sub (de_op op_pow od_pow de_int de_int) (de_callD C D_law_dip (by decide) (da_cons (de_var 0) (da_cons (de_op op_pow od_pow de_int de_int) da_nil)))) da_nil))))) da_nil))) de_int (pgs_nm nd (pgs_nm nd pgs_nm0)))
  (dss_cons (ds_set nd (de_callTy call_tuple_of cd_tuple (by rfl) T.n_tuple (by decide +kernel) (da_cons (de_lc (own := [((Str.ofString "_law_number"), 9)]) nd (di_seq (de_var 2)) (blkOk_by (by kernel_rfl)) (fun _ _ _ _ _ => (tg_name nd)) (tin_name (by decide)) (fun _ _ _ _ _ => dts_nil) (fun _ _ _ _ _ => (de_op or_add od_add (de_var 9) (de_var 4)))) da_nil)))
  (dss_cons (ds_for C.po (di_seq (de_var 3)) (tg_tup (pgs_nm nd (pgs_nm nd pgs_nm0))) (dss_one (ds_set nd (de_op or_mul od_mul (de_var 5) (de_var 7)))))
  (dss_cons (ds_if (dt_cmp (or_neA C.u64) od_ne (de_callB (cr_repr C.gd C.u64) cd_repr (by rfl) T.n_repr (by decide +kernel) (da_cons (de_lst (da_cons (de_callD C D_own_ladder (by decide) (da_cons (de_var 6) da_nil)) (da_cons (de_callK0 [0] [(Str.ofString "numbers")] C D_own_ladder (by decide) (dk_cons (de_var 6) dk_nil) (fun _ _ _ _ _ _ ws hk => match ws, hk with | [_], _ => rfl)) da_nil))) da_nil)) (de_callB (cr_repr C.gd C.u64) cd_repr (by rfl) T.n_repr (by decide +kernel) (da_cons (de_lst (da_cons (de_var 3) (da_cons (de_var 3) da_nil))) da_nil)) (nomark _)) (dss_one (ds_ret de_bl)) dss_nil)
  (dss_cons (ds_if (dt_cmp (or_neA C.u64) od_ne (de_callB (cr_repr C.gd C.u64) cd_repr (by rfl) T.n_repr (by decide +kernel) (da_cons (de_lst (da_cons (de_callD C D_joins (by decide) (da_cons (de_var 6) da_nil)) (da_cons (de_callK0 [0] [(Str.ofString "numbers")] C D_joins (by decide) (dk_cons (de_var 6) dk_nil) (fun _ _ _ _ _ _ ws hk => match ws, hk with | [_], _ => rfl)) da_nil))) da_nil)) de_str (nomark _)) (dss_one (ds_ret de_bl)) dss_nil)
  (dss_one (ds_if (dt_cmp (or_neA C.u64) od_ne (de_callB (cr_repr C.gd C.u64) cd_repr (by rfl) T.n_repr (by decide +kernel) (da_cons (de_lst (da_cons (de_callD C D_least_size (by decide) (da_cons (de_var 6) da_nil)) (da_cons (de_callK0 [0] [(Str.ofString "numbers")] C D_least_size (by decide) (dk_cons (de_var 6) dk_nil) (fun _ _ _ _ _ _ ws hk => match ws, hk with | [_], _ => rfl)) da_nil))) da_nil)) (de_callB (cr_repr C.gd C.u64) cd_repr (by rfl) T.n_repr (by decide +kernel) (da_cons (de_lst (da_cons (de_var 5) (da_cons (de_var 5) da_nil))) da_nil)) (nomark _)) (dss_one (ds_ret de_bl)) dss_nil)))))))))
  (dss_one (ds_ret (de_cmp (or_eqA C.u64) od_eq (de_lst (da_cons (de_callD C D_own_ladder (by decide) (da_cons (de_tup (da_cons de_int da_nil)) da_nil)) (da_cons (de_callD C D_least_size (by decide) (da_cons (de_tup (da_cons de_int da_nil)) da_nil)) (da_cons (de_callD C D_joins (by decide) (da_cons (de_tup (da_cons (de_neg de_int) da_nil)) da_nil)) da_nil)))) (de_lst (da_cons (de_tup da_nil) (da_cons de_int (da_cons de_bl da_nil)))) (nomark _))))))
abbrev s_law : Stmt := top 27
theorem sc_law : FnScope [(Str.ofString "_law_script"), (Str.ofString "_law_k")] [(Str.ofString "_law_script")] (defScope s_law) := ⟨rfl, rfl, rfl, by decide +kernel, rfl, by decide +kernel, by decide +kernel⟩
theorem d_law {P : Program} {w : World} {K : PySem.W.Frag} {mg : Str → Option Value} {base : Heap} (r : Raw K mg (Str.ofString "law") s_law) (T : Top mg) (D_law_jar : Df P w K mg base 1 (Str.ofString "_law_jar") s_law_jar [(Str.ofString "_law_script"), (Str.ofString "_law_k")] wf_law_jar) (D_law_right : Df P w K mg base 6 (Str.ofString "_law_right") s_law_right [(Str.ofString "_law_jar_here")] wf_law_right) : Df P w K mg base 7 (Str.ofString "law") s_law [(Str.ofString "_law_script")] wf_law :=
  have nd := sc_law.nd
  df_of r sc_law (fun _ _ _ _ _ _ us hl => match us, hl with | [_], _ => rfl) h_law (fun f cdv A outer s H E W C =>
  (dss_cons (ds_for C.po (di_range1 (da_cons (de_callB (call_max2 rfl) cd_max2 (by rfl) T.n_max (by decide +kernel) (da_cons de_int (da_cons (de_callB (call_min2 rfl) cd_min2 (by rfl) T.n_min (by decide +kernel) (da_cons (de_callB call_len cd_len (by rfl) T.n_len (by decide +kernel) (da_cons (de_var 0) da_nil)) (da_cons de_int da_nil))) da_nil))) da_nil) (by rfl) T.n_range) (tg_name nd) (dss_one (ds_if (dt_not (dt_val (de_callD C D_law_right (by decide) (da_cons (de_callD C D_law_jar (by decide) (da_cons (de_var 0) (da_cons (de_var 1) da_nil))) da_nil)))) (dss_one (ds_ret de_bl)) dss_nil)))
  (dss_one (ds_ret de_bl))))
theorem raws_ok {l : PySem.W.OpenLaw} {w : World} {K : PySem.W.Frag} {h : Heap} {mg : Str → Option Value} {fa : Addr} (X : K.In h) (G : h.Ns mainGlobals mg) (hfa : mg "law" = some (.ref fa)) (T : Top mg)
    (r_is_integer : Raw K mg (Str.ofString "is_integer") s_is_integer)
    (r_is_list : Raw K mg (Str.ofString "is_list") s_is_list)
    (r_check_list : Raw K mg (Str.ofString "check_list") s_check_list)
    (r_moved : Raw K mg (Str.ofString "moved") s_moved)
    (r_run_of : Raw K mg (Str.ofString "run_of") s_run_of)
    (r_without_blocks : Raw K mg (Str.ofString "without_blocks") s_without_blocks)
    (r_divided : Raw K mg (Str.ofString "divided") s_divided)
    (r_rungs_of : Raw K mg (Str.ofString "rungs_of") s_rungs_of)
    (r_own_ladder_of : Raw K mg (Str.ofString "own_ladder_of") s_own_ladder_of)
    (r_own_ladder : Raw K mg (Str.ofString "own_ladder") s_own_ladder)
    (r_joins : Raw K mg (Str.ofString "joins") s_joins)
    (r_least_size : Raw K mg (Str.ofString "least_size") s_least_size)
    (r_law_jar : Raw K mg (Str.ofString "_law_jar") s_law_jar)
    (r_law_dip : Raw K mg (Str.ofString "_law_dip") s_law_dip)
    (r_law_pick : Raw K mg (Str.ofString "_law_pick") s_law_pick)
    (r_law_alternate : Raw K mg (Str.ofString "_law_alternate") s_law_alternate)
    (r_law_right : Raw K mg (Str.ofString "_law_right") s_law_right)
    (r_law : Raw K mg (Str.ofString "law") s_law)
    : ∃ fd : FuncData, (∀ (s : Shared) (u : Value), BindsTo s fd ⟨[u], []⟩ [((Str.ofString "_law_script"), u)]) ∧ ∀ base : Heap, K.In base → base.Ns mainGlobals mg → FnG l.prog w K mg base 7 fa fd [(Str.ofString "_law_script")] wf_law := by
  refine end_of X G hfa r_law (fun _ _ _ _ _ _ _ _ => .of_eq rfl) fun base => ?_
  have D_is_integer : Df l.prog w K mg base 1 (Str.ofString "is_integer") s_is_integer [(Str.ofString "value")] wf_is_integer := d_is_integer r_is_integer T
  have D_is_list : Df l.prog w K mg base 2 (Str.ofString "is_list") s_is_list [(Str.ofString "value")] wf_is_list := d_is_list r_is_list T D_is_integer
  have D_check_list : Df l.prog w K mg base 3 (Str.ofString "check_list") s_check_list [(Str.ofString "value")] wf_check_list := d_check_list r_check_list T D_is_list
  have D_moved : Df l.prog w K mg base 1 (Str.ofString "moved") s_moved [(Str.ofString "numbers")] wf_moved := d_moved r_moved T
  have D_run_of : Df l.prog w K mg base 1 (Str.ofString "run_of") s_run_of [(Str.ofString "numbers")] wf_run_of := d_run_of r_run_of T
  have D_without_blocks : Df l.prog w K mg base 1 (Str.ofString "without_blocks") s_without_blocks [(Str.ofString "numbers"), (Str.ofString "many")] wf_without_blocks := d_without_blocks r_without_blocks T
  have D_divided : Df l.prog w K mg base 1 (Str.ofString "divided") s_divided [(Str.ofString "numbers"), (Str.ofString "many")] wf_divided := d_divided r_divided T
  have D_rungs_of : Df l.prog w K mg base 1 (Str.ofString "rungs_of") s_rungs_of [(Str.ofString "steps")] wf_rungs_of := d_rungs_of r_rungs_of T
  have D_own_ladder_of : Df l.prog w K mg base 2 (Str.ofString "own_ladder_of") s_own_ladder_of [(Str.ofString "numbers")] wf_own_ladder_of := d_own_ladder_of r_own_ladder_of T D_divided D_run_of D_without_blocks
  have D_own_ladder : Df l.prog w K mg base 4 (Str.ofString "own_ladder") s_own_ladder [(Str.ofString "numbers")] wf_own_ladder := d_own_ladder r_own_ladder T D_check_list D_moved D_own_ladder_of
  have D_joins : Df l.prog w K mg base 5 (Str.ofString "joins") s_joins [(Str.ofString "numbers")] wf_joins := d_joins r_joins T D_own_ladder
  have D_least_size : Df l.prog w K mg base 5 (Str.ofString "least_size") s_least_size [(Str.ofString "numbers")] wf_least_size := d_least_size r_least_size T D_own_ladder D_rungs_of
  have D_law_jar : Df l.prog w K mg base 1 (Str.ofString "_law_jar") s_law_jar [(Str.ofString "_law_script"), (Str.ofString "_law_k")] wf_law_jar := (d_law_jar r_law_jar T).jar j_law_jar
  have D_law_dip : Df l.prog w K mg base 1 (Str.ofString "_law_dip") s_law_dip [(Str.ofString "_law_jar_here"), (Str.ofString "_law_wide")] wf_law_dip := d_law_dip r_law_dip T
  have D_law_pick : Df l.prog w K mg base 2 (Str.ofString "_law_pick") s_law_pick [(Str.ofString "_law_jar_here"), (Str.ofString "_law_menu")] wf_law_pick := d_law_pick r_law_pick T D_law_dip
  have D_law_alternate : Df l.prog w K mg base 2 (Str.ofString "_law_alternate") s_law_alternate [(Str.ofString "_law_jar_here"), (Str.ofString "_law_most_here")] wf_law_alternate := d_law_alternate r_law_alternate T D_law_dip
  have D_law_right : Df l.prog w K mg base 6 (Str.ofString "_law_right") s_law_right [(Str.ofString "_law_jar_here")] wf_law_right := d_law_right r_law_right T D_law_alternate D_law_dip D_law_pick D_joins D_least_size D_own_ladder
  have D_law : Df l.prog w K mg base 7 (Str.ofString "law") s_law [(Str.ofString "_law_script")] wf_law := d_law r_law T D_law_jar D_law_right
  exact D_law
theorem law_true : ∀ ns : List Int, ns.length ≤ 63 → wf_law (fun _ => False) [.rls (ns.map .int)] fun s => s = .d (.bl true) := fun ns _ => ⟨ns, rfl, rfl⟩
end Law
open PySem PySem.W PyProof.Rows
set_option maxRecDepth 100000 in
set_option maxHeartbeats 0 in
theorem PySem.Challenge.cw_onesums_k16_whole_own_ladders_told_back_holds : PySem.Challenge.rw_onesums_k16_whole_own_ladders_told_back.Holds := by
  w_on; o_law; k_head; (case hw => w_witness2)
  k_fill
  refine DL.walk_g (l := PySem.Challenge.rw_onesums_k16_whole_own_ladders_told_back) (k := 7) (wf := Law.wf_law) (x := Str.ofString "_law_script") rfl (by decide) rfl ⟨rfl, by decide, by decide⟩ (fun w h Y => PySem.W.kIn_of Y) ?F Law.law_true
  case F =>
    intro w mg fa h KX G hmg
    have T : Law.Top mg := by
      constructor
      · refine' PySem.W.mg_none_of KX G ?z; (case z => k_is)
      · refine' PySem.W.mg_none_of KX G ?z; (case z => k_is)
      · refine' PySem.W.mg_none_of KX G ?z; (case z => k_is)
      · refine' PySem.W.mg_none_of KX G ?z; (case z => k_is)
      · refine' PySem.W.mg_none_of KX G ?z; (case z => k_is)
      · refine' PySem.W.mg_none_of KX G ?z; (case z => k_is)
      · refine' PySem.W.mg_none_of KX G ?z; (case z => k_is)
      · refine' PySem.W.mg_none_of KX G ?z; (case z => k_is)
      · refine' PySem.W.mg_none_of KX G ?z; (case z => k_is)
      · refine' PySem.W.mg_none_of KX G ?z; (case z => k_is)
      · refine' PySem.W.mg_none_of KX G ?z; (case z => k_is)
      · refine' PySem.W.mg_none_of KX G ?z; (case z => k_is)
      · refine' DL.gint_mk KX G ?z; (case z => k_is)
      · refine' DL.gint_mk KX G ?z; (case z => k_is)
      · refine' DL.gint_mk KX G ?z; (case z => k_is)
    refine' Law.raws_ok KX G hmg T ?r_is_integer ?r_is_list ?r_check_list ?r_moved ?r_run_of ?r_without_blocks ?r_divided ?r_rungs_of ?r_own_ladder_of ?r_own_ladder ?r_joins ?r_least_size ?r_law_jar ?r_law_dip ?r_law_pick ?r_law_alternate ?r_law_right ?r_law
    case r_is_integer =>
      refine' DL.raw_mk KX G ?a ?l ?c ?k; (case a => k_is); (case l => k_is); (case c => k_is); (case k => k_is)
    case r_is_list =>
      refine' DL.raw_mk KX G ?a ?l ?c ?k; (case a => k_is); (case l => k_is); (case c => k_is); (case k => k_is)
    case r_check_list =>
      refine' DL.raw_mk KX G ?a ?l ?c ?k; (case a => k_is); (case l => k_is); (case c => k_is); (case k => k_is)
    case r_moved =>
      refine' DL.raw_mk KX G ?a ?l ?c ?k; (case a => k_is); (case l => k_is); (case c => k_is); (case k => k_is)
    case r_run_of =>
      refine' DL.raw_mk KX G ?a ?l ?c ?k; (case a => k_is); (case l => k_is); (case c => k_is); (case k => k_is)
    case r_without_blocks =>
      refine' DL.raw_mk KX G ?a ?l ?c ?k; (case a => k_is); (case l => k_is); (case c => k_is); (case k => k_is)
    case r_divided =>
      refine' DL.raw_mk KX G ?a ?l ?c ?k; (case a => k_is); (case l => k_is); (case c => k_is); (case k => k_is)
    case r_rungs_of =>
      refine' DL.raw_mk KX G ?a ?l ?c ?k; (case a => k_is); (case l => k_is); (case c => k_is); (case k => k_is)
    case r_own_ladder_of =>
      refine' DL.raw_mk KX G ?a ?l ?c ?k; (case a => k_is); (case l => k_is); (case c => k_is); (case k => k_is)
    case r_own_ladder =>
      refine' DL.raw_mk KX G ?a ?l ?c ?k; (case a => k_is); (case l => k_is); (case c => k_is); (case k => k_is)
    case r_joins =>
      refine' DL.raw_mk KX G ?a ?l ?c ?k; (case a => k_is); (case l => k_is); (case c => k_is); (case k => k_is)
    case r_least_size =>
      refine' DL.raw_mk KX G ?a ?l ?c ?k; (case a => k_is); (case l => k_is); (case c => k_is); (case k => k_is)
    case r_law_jar =>
      refine' DL.raw_mk KX G ?a ?l ?c ?k; (case a => k_is); (case l => k_is); (case c => k_is); (case k => k_is)
    case r_law_dip =>
      refine' DL.raw_mk KX G ?a ?l ?c ?k; (case a => k_is); (case l => k_is); (case c => k_is); (case k => k_is)
    case r_law_pick =>
      refine' DL.raw_mk KX G ?a ?l ?c ?k; (case a => k_is); (case l => k_is); (case c => k_is); (case k => k_is)
    case r_law_alternate =>
      refine' DL.raw_mk KX G ?a ?l ?c ?k; (case a => k_is); (case l => k_is); (case c => k_is); (case k => k_is)
    case r_law_right =>
      refine' DL.raw_mk KX G ?a ?l ?c ?k; (case a => k_is); (case l => k_is); (case c => k_is); (case k => k_is)
    case r_law =>
      refine' DL.raw_mk KX G ?a ?l ?c ?k; (case a => k_is); (case l => k_is); (case c => k_is); (case k => k_is)
