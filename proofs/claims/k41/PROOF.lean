import PyProof.Rows.All
import Wide.All
import OpenK.AllK
import Wide.FinOn
import HandS.ForMost
import HandS.IsInst
import HandS.Wide
import HandS.TupAny
import HandS.TupLe
import HandS.Exc
import HandS.WordsExc
import HandS.TupMul
import HandS.SortInts
import HandS.RaiseMore
import HandS.Deep
import PyProof.ReprRoads
import HandS.Style
import PyProof.ReprLen
import PyProof.Rows.StrIntSpec
import HandS.Comp
import HandS.Strs
import HandS.SetFor
import HandS.Small
import HandS.Dict
import HandS.Iter
import PySem.Challenge.RW_onesums_k41_whole_fillings_counted
set_option Elab.async false
set_option linter.all false
set_option maxRecDepth 100000
/-! DL0: plain data over HandS: values D, worlds, states, lifted readings. -/
namespace DL
open PySem PySem.Spec L2

/-- plain data; rls: a list that is only read; jar: a list of three ints that anybody may change -/
inductive D where
  | non | bl (b : Bool) | int (i : Int) | str (s : Str)
  | tup (ds : List D) | lst (ds : List D) | rls (ds : List D)
  | dic (kvs : List (Key × D))
  | ins (C : Addr) (fs : List (Str × D))
  | jar | v (x : V)
  deriving Inhabited

/-- what a slot holds: data; or a list, a dict that this slot alone holds -/
inductive S where
  | d (x : D) | own (ds : List D) | odic (kvs : List (Key × D))
  deriving Inhabited
def S.isOwn : S → Bool
  | .d _ => false
  | _ => true
def S.frz : S → D
  | .own ds => .lst ds
  | .odic ds => .dic ds
  | .d x => x

/-- F: what never changes any more; J: the jars -/
structure Wd where
  F : Addr → Prop
  J : Addr → Prop
def Wd.add (W : Wd) (p : Addr) : Wd := ⟨fun a => W.F a ∨ a = p, W.J⟩
def Wd.addJ (W : Wd) (p : Addr) : Wd := ⟨W.F, fun a => W.J a ∨ a = p⟩

def SeqT (K : PySem.W.Frag) (W : Wd) (H : Hp) (a : Addr) (xs : List V) : Prop :=
  (W.F a ∧ Rd H a (.tup xs)) ∨
    ∃ (o : Obj) (its : Array Value) (n : Nat), K.lookup a = some o ∧ o.cls = .type "tuple" ∧ o.data = .seq its n ∧ its.size ≤ sizeLine ∧ Vals xs its.toList
def SeqL (K : PySem.W.Frag) (W : Wd) (H : Hp) (a : Addr) (xs : List V) : Prop :=
  (W.F a ∧ Rd H a (.lst xs)) ∨
    ∃ (o : Obj) (its : Array Value) (n : Nat), K.lookup a = some o ∧ o.cls = .type "list" ∧ o.dict = none ∧ o.data = .seq its n ∧ its.size ≤ sizeLine ∧ Vals xs its.toList
theorem SeqT.sq {K : PySem.W.Frag} {W : Wd} {H : Hp} {a : Addr} {xs : List V} (h : SeqT K W H a xs) : SqT K H a xs :=
  h.elim (fun q => .inl q.2) .inr
theorem SeqL.sq {K : PySem.W.Frag} {W : Wd} {H : Hp} {a : Addr} {xs : List V} (h : SeqL K W H a xs) : SqL K H a xs :=
  h.elim (fun q => .inl q.2) .inr

structure DicAt (H : Hp) (a : Addr) (vs : List (Key × V)) : Prop where
  rd : Rd H a (.dK vs)
mutual
/-- the value x denotes d -/
inductive Dn (K : PySem.W.Frag) (W : Wd) (H : Hp) : D → V → Prop
  | non : Dn K W H .non .non
  | bl (b : Bool) : Dn K W H (.bl b) (.bl b)
  | int (i : Int) : Dn K W H (.int i) (.int i)
  | str (s : Str) : Dn K W H (.str s) (.str s)
  | tup {a : Addr} {ds : List D} {vs : List V} : SeqT K W H a vs → DnA K W H ds vs → Dn K W H (.tup ds) (.ref a)
  | lst {a : Addr} {ds : List D} {vs : List V} : W.F a → H a = some (.lst vs) → DnA K W H ds vs → Dn K W H (.lst ds) (.ref a)
  | rls {a : Addr} {ds : List D} {vs : List V} : SeqL K W H a vs → DnA K W H ds vs → Dn K W H (.rls ds) (.ref a)
  | dic {a : Addr} {ds : List (Key × D)} {vs : List (Key × V)} : W.F a → DicAt H a vs → DnK K W H ds vs → Dn K W H (.dic ds) (.ref a)
  | ins {a C dx : Addr} {ds : List (Str × D)} {vs : List (Str × V)} : W.F a → H a = some (.ins C dx vs) → DnF K W H ds vs → Dn K W H (.ins C ds) (.ref a)
  | jar {a : Addr} : W.J a → Dn K W H .jar (.ref a)
  | v (x : V) : Dn K W H (.v x) x
inductive DnA (K : PySem.W.Frag) (W : Wd) (H : Hp) : List D → List V → Prop
  | nil : DnA K W H [] []
  | cons {d : D} {ds : List D} {x : V} {xs : List V} : Dn K W H d x → DnA K W H ds xs → DnA K W H (d :: ds) (x :: xs)
inductive DnK (K : PySem.W.Frag) (W : Wd) (H : Hp) : List (Key × D) → List (Key × V) → Prop
  | nil : DnK K W H [] []
  | cons {k : Key} {d : D} {ds : List (Key × D)} {x : V} {xs : List (Key × V)} : Dn K W H d x → DnK K W H ds xs → DnK K W H ((k, d) :: ds) ((k, x) :: xs)
inductive DnF (K : PySem.W.Frag) (W : Wd) (H : Hp) : List (Str × D) → List (Str × V) → Prop
  | nil : DnF K W H [] []
  | cons {k : Str} {d : D} {ds : List (Str × D)} {x : V} {xs : List (Str × V)} : Dn K W H d x → DnF K W H ds xs → DnF K W H ((k, d) :: ds) ((k, x) :: xs)
end

structure Le (W : Wd) (H : Hp) (W' : Wd) (H' : Hp) : Prop where
  F : ∀ a, W.F a → W'.F a
  J : ∀ a, W.J a → W'.J a
  k : ∀ a, W.F a → H' a = H a
theorem Le.refl (W : Wd) (H : Hp) : Le W H W H := ⟨fun _ h => h, fun _ h => h, fun _ _ => rfl⟩
theorem Le.trans {W1 W2 W3 : Wd} {H1 H2 H3 : Hp} (a : Le W1 H1 W2 H2) (b : Le W2 H2 W3 H3) : Le W1 H1 W3 H3 :=
  ⟨fun x h => b.F x (a.F x h), fun x h => b.J x (a.J x h), fun x h => (b.k x (a.F x h)).trans (a.k x h)⟩

section
variable {K : PySem.W.Frag} {W W' : Wd} {H H' : Hp}
theorem Rd.cong {a : Addr} {u : HO} (e : H' a = H a) (h : Rd H a u) : Rd H' a u := by
  unfold Rd at *
  rw [e]
  exact h
theorem SeqT.le (l : Le W H W' H') {a : Addr} {xs : List V} (h : SeqT K W H a xs) : SeqT K W' H' a xs :=
  h.elim (fun q => .inl ⟨l.F a q.1, Rd.cong (l.k a q.1) q.2⟩) .inr
theorem SeqL.le (l : Le W H W' H') {a : Addr} {xs : List V} (h : SeqL K W H a xs) : SeqL K W' H' a xs :=
  h.elim (fun q => .inl ⟨l.F a q.1, Rd.cong (l.k a q.1) q.2⟩) .inr
theorem DicAt.le (l : Le W H W' H') {a : Addr} {xs : List (Key × V)} (h : DicAt H a xs) (f : W.F a) : DicAt H' a xs := ⟨Rd.cong (l.k a f) h.rd⟩
mutual
theorem Dn.le (l : Le W H W' H') : ∀ {d : D} {x : V}, Dn K W H d x → Dn K W' H' d x
  | _, _, .non => .non
  | _, _, .bl b => .bl b
  | _, _, .int b => .int b
  | _, _, .str b => .str b
  | _, _, .tup h1 h2 => .tup (h1.le l) (DnA.le l h2)
  | _, _, .lst h1 h2 h3 => .lst (l.F _ h1) ((l.k _ h1).trans h2) (DnA.le l h3)
  | _, _, .rls h1 h2 => .rls (h1.le l) (DnA.le l h2)
  | _, _, .dic h1 h2 h3 => .dic (l.F _ h1) (h2.le l h1) (DnK.le l h3)
  | _, _, .ins h1 h2 h3 => .ins (l.F _ h1) ((l.k _ h1).trans h2) (DnF.le l h3)
  | _, _, .jar h => .jar (l.J _ h)
  | _, _, .v x => .v x
theorem DnA.le (l : Le W H W' H') : ∀ {d : List D} {x : List V}, DnA K W H d x → DnA K W' H' d x
  | _, _, .nil => .nil
  | _, _, .cons h1 h2 => .cons (Dn.le l h1) (DnA.le l h2)
theorem DnK.le (l : Le W H W' H') : ∀ {d : List (Key × D)} {x : List (Key × V)}, DnK K W H d x → DnK K W' H' d x
  | _, _, .nil => .nil
  | _, _, .cons h1 h2 => .cons (Dn.le l h1) (DnK.le l h2)
theorem DnF.le (l : Le W H W' H') : ∀ {d : List (Str × D)} {x : List (Str × V)}, DnF K W H d x → DnF K W' H' d x
  | _, _, .nil => .nil
  | _, _, .cons h1 h2 => .cons (Dn.le l h1) (DnF.le l h2)
end
theorem DnA.length : ∀ {ds : List D} {xs : List V}, DnA K W H ds xs → ds.length = xs.length
  | _, _, .nil => rfl
  | _, _, .cons _ h => congrArg (· + 1) h.length
theorem DnA.get : ∀ {ds : List D} {xs : List V} {i : Nat} {d : D}, DnA K W H ds xs → ds[i]? = some d → ∃ x, xs[i]? = some x ∧ Dn K W H d x
  | _, _, 0, _, .cons h _, e => ⟨_, rfl, by cases e; exact h⟩
  | _, _, i + 1, _, .cons _ h, e => by
    obtain ⟨x, e1, e2⟩ := h.get (i := i) (by simpa using e)
    exact ⟨x, by simpa using e1, e2⟩
theorem DnA.get' : ∀ {ds : List D} {xs : List V} {i : Nat} {x : V}, DnA K W H ds xs → xs[i]? = some x → ∃ d, ds[i]? = some d ∧ Dn K W H d x
  | _, _, 0, _, .cons h _, e => ⟨_, rfl, by cases e; exact h⟩
  | _, _, i + 1, _, .cons _ h, e => by
    obtain ⟨x, e1, e2⟩ := h.get' (i := i) (by simpa using e)
    exact ⟨x, by simpa using e1, e2⟩
theorem DnA.append : ∀ {ds es : List D} {xs ys : List V}, DnA K W H ds xs → DnA K W H es ys → DnA K W H (ds ++ es) (xs ++ ys)
  | _, _, _, _, .nil, h => h
  | _, _, _, _, .cons h1 h2, h => .cons h1 (h2.append h)
theorem DnA.take : ∀ (n : Nat) {ds : List D} {xs : List V}, DnA K W H ds xs → DnA K W H (ds.take n) (xs.take n)
  | 0, _, _, _ => by simpa using DnA.nil
  | _ + 1, _, _, .nil => by simpa using DnA.nil
  | n + 1, _, _, .cons h1 h2 => .cons h1 (h2.take n)
theorem DnA.drop : ∀ (n : Nat) {ds : List D} {xs : List V}, DnA K W H ds xs → DnA K W H (ds.drop n) (xs.drop n)
  | 0, _, _, h => h
  | _ + 1, _, _, .nil => by simpa using DnA.nil
  | n + 1, _, _, .cons h1 h2 => h2.drop n
theorem DnA.set {d : D} {x : V} (h : Dn K W H d x) : ∀ {ds : List D} {xs : List V} (i : Nat), DnA K W H ds xs → DnA K W H (ds.set i d) (xs.set i x)
  | _, _, _, .nil => by simpa using DnA.nil
  | _, _, 0, .cons _ h2 => .cons h h2
  | _, _, i + 1, .cons h1 h2 => .cons h1 (h2.set h i)
theorem DnA.reverse {ds : List D} {xs : List V} (h : DnA K W H ds xs) : DnA K W H ds.reverse xs.reverse := by
  induction ds generalizing xs with
  | nil => cases h; exact .nil
  | cons d ds ih =>
    cases h with
    | cons h1 h2 =>
      rw [List.reverse_cons, List.reverse_cons]
      exact (ih h2).append (.cons h1 .nil)
theorem DnA.one {d : D} {xs : List V} (h : DnA K W H [d] xs) : ∃ x, xs = [x] ∧ Dn K W H d x := by
  cases h with
  | cons h1 h2 => cases h2; exact ⟨_, rfl, h1⟩
theorem DnA.map_int : ∀ {ns : List Int} {xs : List V}, DnA K W H (ns.map .int) xs → xs = ns.map .int
  | [], _, .nil => rfl
  | n :: ns, _, .cons h1 h2 => by cases h1; rw [h2.map_int]; rfl
theorem DnA.of_int : ∀ (ns : List Int), DnA K W H (ns.map .int) (ns.map .int)
  | [] => .nil
  | n :: ns => .cons (.int n) (DnA.of_int ns)
theorem DnA.map_bl : ∀ {ns : List Bool} {xs : List V}, DnA K W H (ns.map .bl) xs → xs = ns.map .bl
  | [], _, .nil => rfl
  | n :: ns, _, .cons h1 h2 => by cases h1; rw [h2.map_bl]; rfl
theorem DnA.map_str : ∀ {ns : List Str} {xs : List V}, DnA K W H (ns.map .str) xs → xs = ns.map .str
  | [], _, .nil => rfl
  | n :: ns, _, .cons h1 h2 => by cases h1; rw [h2.map_str]; rfl
theorem DnA.of_str : ∀ (ns : List Str), DnA K W H (ns.map .str) (ns.map .str)
  | [] => .nil
  | n :: ns => .cons (.str n) (DnA.of_str ns)
end

/-- the jars -/
def JarAt (H : Hp) (a : Addr) : Prop := ∃ x y z : Int, H a = some (.lst [.int x, .int y, .int z]) ∧ -(2 ^ 40) < y ∧ y < 2 ^ 40
structure Al (W : Wd) (H : Hp) : Prop where
  f : ∀ a, W.F a → ∃ o, H a = some o
  j : ∀ a, W.J a → JarAt H a
  d : ∀ a, W.J a → ¬ W.F a

/-- what an evaluation may do: freeze new things and own ones (ow), change own ones and jars -/
structure Step (ow : Addr → Prop) (W : Wd) (H : Hp) (W' : Wd) (H' : Hp) : Prop where
  le : Le W H W' H'
  nF : ∀ a, W'.F a → W.F a ∨ H a = none ∨ ow a
  nJ : ∀ a, W'.J a → W.J a ∨ H a = none
  st : ∀ a o, H a = some o → ¬ W.J a → ¬ ow a → H' a = some o
  up : ∀ a, H' a = none → H a = none
abbrev no1 : Addr → Prop := fun _ => False
theorem Step.refl (ow : Addr → Prop) (W : Wd) (H : Hp) : Step ow W H W H := ⟨.refl _ _, fun _ h => .inl h, fun _ h => .inl h, fun _ _ h _ _ => h, fun _ h => h⟩
theorem Step.trans {ow ow1 : Addr → Prop} {W1 W2 W3 : Wd} {H1 H2 H3 : Hp} (a : Step ow W1 H1 W2 H2) (b : Step ow1 W2 H2 W3 H3) (hs : ∀ x, ow1 x → ow x ∨ H1 x = none) : Step ow W1 H1 W3 H3 where
  le := a.le.trans b.le
  nF := fun x h => by
    rcases b.nF x h with q | q | q
    · exact a.nF x q
    · exact .inr (.inl (a.up x q))
    · rcases hs x q with z | z
      · exact .inr (.inr z)
      · exact .inr (.inl z)
  nJ := fun x h => by
    rcases b.nJ x h with q | q
    · exact a.nJ x q
    · exact .inr (a.up x q)
  st := fun x o h nj no => by
    refine b.st x o (a.st x o h nj no) (fun q => ?_) (fun q => ?_)
    · rcases a.nJ x q with z | z
      · exact nj z
      · rw [h] at z; cases z
    · rcases hs x q with z | z
      · exact no z
      · rw [h] at z; cases z
  up := fun x h => a.up x (b.up x h)

theorem Step.mono {ow ow' : Addr → Prop} {W W' : Wd} {H H' : Hp} (s : Step ow W H W' H') (h : ∀ x, ow x → ow' x) : Step ow' W H W' H' where
  le := s.le
  nF := fun a q => (s.nF a q).imp id (Or.imp id (h a))
  nJ := s.nJ
  st := fun a o e nj no => s.st a o e nj fun z => no (h a z)
  up := s.up
/-- a value that may be own -/
def Rs (K : PySem.W.Frag) (W : Wd) (H : Hp) : S → V → Prop
  | .own ds, x => ∃ p vs, x = .ref p ∧ H p = some (.lst vs) ∧ DnA K W H ds vs
  | .odic ds, x => ∃ p vs, x = .ref p ∧ H p = some (.dK vs) ∧ DnK K W H ds vs
  | .d d, x => Dn K W H d x
theorem Rs.ow {K : PySem.W.Frag} {W : Wd} {H : Hp} {d : S} {x : V} (h : Rs K W H d x) (n : d.isOwn = true) : ∃ p o, x = .ref p ∧ H p = some o := by
  cases d <;> first | (obtain ⟨p, vs, h1, h2, _⟩ := h; exact ⟨p, _, h1, h2⟩) | cases n
theorem Rs.le {K : PySem.W.Frag} {W W' : Wd} {H H' : Hp} (l : Le W H W' H') {d : S} {x : V} (h : Rs K W H d x) (ho : d.isOwn = true → ∀ p, x = .ref p → H' p = H p) : Rs K W' H' d x := by
  cases d with
  | own ds => obtain ⟨p, vs, h1, h2, h3⟩ := h; exact ⟨p, vs, h1, (ho rfl p h1).trans h2, h3.le l⟩
  | odic ds => obtain ⟨p, vs, h1, h2, h3⟩ := h; exact ⟨p, vs, h1, (ho rfl p h1).trans h2, h3.le l⟩
  | d x => exact Dn.le l h

/-- the slots, as data -/
abbrev Rho := List (Option S)
def Ow (ρ : Rho) (σ : L2.St) (a : Addr) : Prop := ∃ (i : Nat) (d : S), ρ[i]? = some (some d) ∧ d.isOwn = true ∧ σ[i]? = some (some (.ref a))
/-- the entry of a def -/
structure Gx where
  W : Wd
  H : Hp
structure Ok (K : PySem.W.Frag) (G : Gx) (W : Wd) (ρ : Rho) (σ : L2.St) (H : Hp) : Prop where
  len : σ.length = ρ.length
  val : ∀ (i : Nat) (d : S), ρ[i]? = some (some d) → ∃ x, σ[i]? = some (some x) ∧ Rs K W H d x
  frs : ∀ a, Ow ρ σ a → ¬ W.F a ∧ ¬ W.J a ∧ G.H a = none
  inj : ∀ (i j : Nat) (d e : S) (a : Addr), ρ[i]? = some (some d) → ρ[j]? = some (some e) → d.isOwn = true → e.isOwn = true → σ[i]? = some (some (.ref a)) → σ[j]? = some (some (.ref a)) → i = j
  al : Al W H
  en : Step no1 G.W G.H W H
/-- from one state of a frame to another, the slots' values as they were -/
structure Go (K : PySem.W.Frag) (G : Gx) (σ : L2.St) (ρ : Rho) (W : Wd) (H : Hp) (ρ' : Rho) (W' : Wd) (H' : Hp) : Prop where
  ok : Ok K G W' ρ' σ H'
  stp : Step (Ow ρ σ) W H W' H'
  sub : ∀ a, Ow ρ' σ a → Ow ρ σ a
section
variable {K : PySem.W.Frag} {G : Gx} {σ : L2.St} {ρ ρ1 ρ2 : Rho} {W W1 W2 : Wd} {H H1 H2 : Hp}
theorem Go.refl (ok : Ok K G W ρ σ H) : Go K G σ ρ W H ρ W H := ⟨ok, .refl _ _ _, fun _ h => h⟩
theorem Go.trans (a : Go K G σ ρ W H ρ1 W1 H1) (b : Go K G σ ρ1 W1 H1 ρ2 W2 H2) : Go K G σ ρ W H ρ2 W2 H2 :=
  ⟨b.ok, a.stp.trans b.stp fun x h => .inl (a.sub x h), fun x h => a.sub x (b.sub x h)⟩
theorem Ok.here (ok : Ok K G W ρ σ H) {a : Addr} (h : Ow ρ σ a) : ∃ o, H a = some o := by
  obtain ⟨i, d, h1, h2, h3⟩ := h
  obtain ⟨x, e, r⟩ := ok.val i d h1
  rw [h3] at e
  cases e
  obtain ⟨p, o, e1, e2⟩ := r.ow h2
  cases e1
  exact ⟨o, e2⟩
theorem Ok.upG (ok : Ok K G W ρ σ H) {a : Addr} (h : H a = none) : G.H a = none := ok.en.up a h
/-- the heap and the world grow, what is own stays: the same slots -/
theorem Ok.grow (ok : Ok K G W ρ σ H) (s : Step no1 W H W1 H1) (al : Al W1 H1) : Go K G σ ρ W H ρ W1 H1 := by
  have nf : ∀ a, Ow ρ σ a → ¬ W1.F a ∧ ¬ W1.J a ∧ H1 a = H a := fun a h => by
    obtain ⟨o, ho⟩ := ok.here h
    obtain ⟨f1, f2, f3⟩ := ok.frs a h
    refine ⟨fun q => ?_, fun q => ?_, ?_⟩
    · rcases s.nF a q with z | z | z
      · exact f1 z
      · rw [ho] at z; cases z
      · exact z.elim
    · rcases s.nJ a q with z | z
      · exact f2 z
      · rw [ho] at z; cases z
    · rw [ho]; exact s.st a o ho f2 fun z => z.elim
  refine ⟨⟨ok.len, fun i d h => ?_, fun a h => ⟨(nf a h).1, (nf a h).2.1, (ok.frs a h).2.2⟩, ok.inj, al, ok.en.trans s fun _ h => h.elim⟩, s.mono fun _ h => h.elim, fun _ h => h⟩
  obtain ⟨x, e, r⟩ := ok.val i d h
  exact ⟨x, e, r.le s.le fun ho p hp => (nf p ⟨i, d, h, ho, by rw [e, hp]⟩).2.2⟩
/-- a new object -/
theorem step_new {W : Wd} {H : Hp} {p : Addr} {o : HO} (al : Al W H) (h : H p = none) : Step no1 W H W (upd H p o) where
  le := ⟨fun _ h => h, fun _ h => h, fun a q => by
    obtain ⟨u, e⟩ := al.f a q
    exact upd_ne (ne_of_none e h)⟩
  nF := fun _ q => .inl q
  nJ := fun _ q => .inl q
  st := fun a u e _ _ => by rw [upd_ne (ne_of_none e h)]; exact e
  up := fun a e => by
    by_cases q : a = p
    · subst q; exact h
    · rw [upd_ne q] at e; exact e
theorem al_new {W : Wd} {H : Hp} {p : Addr} {o : HO} (al : Al W H) (h : H p = none) : Al W (upd H p o) where
  f := fun a q => by
    obtain ⟨u, e⟩ := al.f a q
    exact ⟨u, by rw [upd_ne (ne_of_none e h)]; exact e⟩
  j := fun a q => by
    obtain ⟨x, y, z, e, b⟩ := al.j a q
    exact ⟨x, y, z, by rw [upd_ne (ne_of_none e h)]; exact e, b⟩
  d := al.d
theorem step_frz {W : Wd} {H : Hp} {p : Addr} {o : HO} (al : Al W H) (h : H p = none) : Step no1 W H (W.add p) (upd H p o) where
  le := ⟨fun _ h => .inl h, fun _ h => h, (step_new al h).le.k⟩
  nF := fun a q => q.imp id fun e => .inl (by rw [e]; exact h)
  nJ := fun _ q => .inl q
  st := (step_new al h).st
  up := (step_new al h).up
theorem al_frz {W : Wd} {H : Hp} {p : Addr} {o : HO} (al : Al W H) (h : H p = none) : Al (W.add p) (upd H p o) where
  f := fun a q => q.elim ((al_new al h).f a) fun e => ⟨o, by rw [e]; exact upd_same⟩
  j := (al_new al h).j
  d := fun a q z => z.elim (al.d a q) fun e => by
    obtain ⟨x, y, z, e', _⟩ := al.j a q
    rw [e, h] at e'
    cases e'
/-- a value that has come behind H0 -/
structure Res (K : PySem.W.Frag) (H0 : Hp) (W : Wd) (H : Hp) (d : S) (x : V) : Prop where
  rs : Rs K W H d x
  fr : d.isOwn = true → ∀ p, x = .ref p → ¬ W.F p ∧ ¬ W.J p ∧ H0 p = none
theorem Res.of {K : PySem.W.Frag} {H0 : Hp} {W : Wd} {H : Hp} {d : D} {x : V} (h : Dn K W H d x) : Res K H0 W H (.d d) x :=
  ⟨h, fun o => by cases o⟩
theorem Go.freeze {K : PySem.W.Frag} {G : Gx} {σ : L2.St} {ρ ρ1 : Rho} {W W1 : Wd} {H H1 : Hp} {d : S} {x : V} (ok : Ok K G W ρ σ H) (g : Go K G σ ρ W H ρ1 W1 H1) (r : Res K H W1 H1 d x) :
    ∃ W2, Go K G σ ρ W H ρ1 W2 H1 ∧ Dn K W2 H1 d.frz x ∧ Le W1 H1 W2 H1 := by
  cases ho : d.isOwn with
  | false =>
    cases d <;> first | (cases ho; done) | exact ⟨W1, g, r.rs, .refl _ _⟩
  | true =>
    obtain ⟨p, o, rfl, hp⟩ := r.rs.ow ho
    obtain ⟨nf, nj, h0⟩ := r.fr ho p rfl
    have l : Le W1 H1 (W1.add p) H1 := ⟨fun _ h => .inl h, fun _ h => h, fun _ _ => rfl⟩
    have al : Al (W1.add p) H1 := ⟨fun a q => q.elim (g.ok.al.f a) fun e => ⟨o, by rw [e]; exact hp⟩, g.ok.al.j, fun a q z => z.elim (g.ok.al.d a q) fun e => nj (by rw [← e]; exact q)⟩
    refine ⟨W1.add p, ⟨⟨g.ok.len, fun i e h => ?_, fun a h => ?_, g.ok.inj, al, ?_⟩, ?_, g.sub⟩, ?_, l⟩
    · obtain ⟨y, e1, e2⟩ := g.ok.val i e h
      exact ⟨y, e1, e2.le l fun _ _ _ => rfl⟩
    · obtain ⟨a1, a2, a3⟩ := g.ok.frs a h
      refine ⟨fun z => z.elim a1 fun e => ?_, a2, a3⟩
      obtain ⟨u, hu⟩ := ok.here (g.sub a h)
      rw [e, h0] at hu
      cases hu
    · exact ⟨g.ok.en.le.trans l, fun a q => q.elim (g.ok.en.nF a) fun e => .inr (.inl (by rw [e]; exact ok.upG h0)), g.ok.en.nJ, g.ok.en.st, g.ok.en.up⟩
    · exact ⟨g.stp.le.trans l, fun a q => q.elim (g.stp.nF a) fun e => .inr (.inl (by rw [e]; exact h0)), g.stp.nJ, g.stp.st, g.stp.up⟩
    · cases d with
      | own ds =>
        obtain ⟨q, vs, e1, e2, e3⟩ := r.rs
        cases e1
        exact .lst (.inr rfl) e2 (e3.le l)
      | odic ds =>
        obtain ⟨q, vs, e1, e2, e3⟩ := r.rs
        cases e1
        exact .dic (.inr rfl) ⟨.inl e2⟩ (e3.le l)
      | _ => cases ho
end
/-- an exception as data: its class, its attributes -/
structure Exn where
  cls : Value
  fs : List (Str × D)
def ExAt (K : PySem.W.Frag) (W : Wd) (H : Hp) (x : Exn) (c : Value) (dx : Option Addr) : Prop :=
  c = x.cls ∧ ((dx = none ∧ x.fs = []) ∨ ∃ a vs, dx = some a ∧ H a = some (.xd vs) ∧ DnF K W H x.fs vs)
abbrev ZK := Exn → Rho → Prop
/-- readings over data -/
abbrev WE := ZK → Rho → (S → Rho → Prop) → Prop
abbrev WT := ZK → Rho → (Bool → Rho → Prop) → Prop
abbrev WA := ZK → Rho → (List D → Rho → Prop) → Prop
structure DEnds where
  nx : Rho → Prop
  rt : S → Prop
  bk : Rho → Prop
  ct : Rho → Prop
  ex : ZK
abbrev WS := DEnds → Rho → Prop
/-- a def over data -/
abbrev WF := (Exn → Prop) → List D → (S → Prop) → Prop
section
variable (K : PySem.W.Frag) (G : Gx) (T : WX)
def lZ (Z : ZK) (σ : L2.St) (ρ : Rho) (W : Wd) (H : Hp) : Prop := ∀ x ρ' W' H' c dx, Z x ρ' → Go K G σ ρ W H ρ' W' H' → ExAt K W' H' x c dx → T c dx σ H'
def lE (w : WE) : TE := fun σ H Q => ∃ (W : Wd) (ρ : Rho) (R : S → Rho → Prop) (Z : ZK), Ok K G W ρ σ H ∧ w Z ρ R ∧
  (∀ d ρ' W' x H', R d ρ' → Go K G σ ρ W H ρ' W' H' → Res K H W' H' d x → Q x H') ∧ lZ K G T Z σ ρ W H
def lT (w : WT) : TT := fun σ H Q => ∃ (W : Wd) (ρ : Rho) (R : Bool → Rho → Prop) (Z : ZK), Ok K G W ρ σ H ∧ w Z ρ R ∧
  (∀ b ρ' W' H', R b ρ' → Go K G σ ρ W H ρ' W' H' → Q b H') ∧ lZ K G T Z σ ρ W H
def lA (w : WA) : TA := fun σ H Q => ∃ (W : Wd) (ρ : Rho) (R : List D → Rho → Prop) (Z : ZK), Ok K G W ρ σ H ∧ w Z ρ R ∧
  (∀ ds ρ' W' xs H', R ds ρ' → Go K G σ ρ W H ρ' W' H' → DnA K W' H' ds xs → Q xs H') ∧ lZ K G T Z σ ρ W H
/-- a statement: the slots may change -/
def lX (Z : ZK) (W : Wd) (H : Hp) : Prop := ∀ x ρ' W' σ' H' c dx, Z x ρ' → Ok K G W' ρ' σ' H' → Le W H W' H' → ExAt K W' H' x c dx → T c dx σ' H'
def lN (N : Rho → Prop) (P : L2.St → Hp → Prop) (W : Wd) (H : Hp) : Prop := ∀ ρ' W' σ' H', N ρ' → Ok K G W' ρ' σ' H' → Le W H W' H' → P σ' H'
def lR (R : S → Prop) (Q : VK) (W : Wd) (H : Hp) : Prop := ∀ d ρ' W' σ' x H', R d → Ok K G W' ρ' σ' H' → Le W H W' H' → Res K G.H W' H' d x → Q x H'
def lS (w : WS) : TS := fun D σ H => ∃ (W : Wd) (ρ : Rho) (E : DEnds), Ok K G W ρ σ H ∧ w E ρ ∧
  lN K G E.nx D.nx W H ∧ lR K G E.rt D.rt W H ∧ lN K G E.bk D.bk W H ∧ lN K G E.ct D.ct W H ∧ lX K G T E.ex W H
end
section
variable {K : PySem.W.Frag} {G : Gx} {T : WX}
theorem lZ.go {Z : ZK} {σ : L2.St} {ρ ρ1 : Rho} {W W1 : Wd} {H H1 : Hp} (z : lZ K G T Z σ ρ W H) (g : Go K G σ ρ W H ρ1 W1 H1) : lZ K G T Z σ ρ1 W1 H1 :=
  fun x ρ' W' H' c dx h g' e => z x ρ' W' H' c dx h (g.trans g') e
theorem Res.up {H0 H1 : Hp} {W : Wd} {H : Hp} {d : S} {x : V} (r : Res K H1 W H d x) (u : ∀ a, H1 a = none → H0 a = none) : Res K H0 W H d x :=
  ⟨r.rs, fun o p e => let ⟨a, b, c⟩ := r.fr o p e; ⟨a, b, u p c⟩⟩
theorem lN.le {N : Rho → Prop} {P : L2.St → Hp → Prop} {W W1 : Wd} {H H1 : Hp} (h : lN K G N P W H) (l : Le W H W1 H1) : lN K G N P W1 H1 :=
  fun ρ' W' σ' H' n o q => h ρ' W' σ' H' n o (l.trans q)
theorem lR.le {R : S → Prop} {Q : VK} {W W1 : Wd} {H H1 : Hp} (h : lR K G R Q W H) (l : Le W H W1 H1) : lR K G R Q W1 H1 :=
  fun d ρ' W' σ' x H' n o q => h d ρ' W' σ' x H' n o (l.trans q)
theorem lX.le {Z : ZK} {W W1 : Wd} {H H1 : Hp} (h : lX K G T Z W H) (l : Le W H W1 H1) : lX K G T Z W1 H1 :=
  fun x ρ' W' σ' H' c dx n o q => h x ρ' W' σ' H' c dx n o (l.trans q)
theorem lX.z {Z : ZK} {W : Wd} {H : Hp} (h : lX K G T Z W H) (σ : L2.St) (ρ : Rho) : lZ K G T Z σ ρ W H :=
  fun x ρ' W' H' c dx n g e => h x ρ' W' σ H' c dx n g.ok g.stp.le e
end
/-! ### the judgements -/
def DE (X : Cx) (G : Gx) (T : WX) (e : Expr) (w : WE) : Prop := PE X e (lE X.K G T w)
def DT (X : Cx) (G : Gx) (T : WX) (e : Expr) (w : WT) : Prop := PT X e (lT X.K G T w)
def DA (X : Cx) (G : Gx) (T : WX) (es : List Expr) (w : WA) : Prop := PA X es (lA X.K G T w)
def DS (X : Cx) (G : Gx) (T : WX) (st : Stmt) (w : WS) : Prop := PS X st (lS X.K G T w)
def DSs (X : Cx) (G : Gx) (T : WX) (st : List Stmt) (w : WS) : Prop := PSs X st (lS X.K G T w)
theorem pe_weak {X : Cx} {e : Expr} {t t' : TE} (h : PE X e t) (i : ∀ σ H Q, t' σ H Q → t σ H Q) : PE X e t' := ⟨fun p s σ H Q I q => h.run p s σ H Q I (i σ H Q q)⟩
theorem pt_weak {X : Cx} {e : Expr} {t t' : TT} (h : PT X e t) (i : ∀ σ H Q, t' σ H Q → t σ H Q) : PT X e t' := ⟨fun p s σ H Q I q => h.run p s σ H Q I (i σ H Q q)⟩
theorem pw_weak {X : Cx} {e : Expr} {t t' : TT} (h : PW X e t) (i : ∀ σ H Q, t' σ H Q → t σ H Q) : PW X e t' := ⟨fun wh p s σ H Q I q => h.run wh p s σ H Q I (i σ H Q q)⟩
theorem pa_weak {X : Cx} {e : List Expr} {t t' : TA} (h : PA X e t) (i : ∀ σ H Q, t' σ H Q → t σ H Q) : PA X e t' := ⟨fun po p s σ H Q I q => h.run po p s σ H Q I (i σ H Q q)⟩
theorem ps_weak {X : Cx} {e : Stmt} {t t' : TS} (h : PS X e t) (i : ∀ D σ H, t' D σ H → t D σ H) : PS X e t' := ⟨fun p s σ H D I q => h.run p s σ H D I (i D σ H q)⟩
theorem pss_weak {X : Cx} {e : List Stmt} {t t' : TS} (h : PSs X e t) (i : ∀ D σ H, t' D σ H → t D σ H) : PSs X e t' := ⟨fun p s σ H D I q => h.run p s σ H D I (i D σ H q)⟩
end DL

/-! DL1: rules for expressions and tests. -/
namespace DL
open PySem PySem.Spec L2
section
variable {K : PySem.W.Frag} {G : Gx} {T : WX} {σ : L2.St} {ρ ρ1 : Rho} {W W1 : Wd} {H H1 : Hp}
/-! ### slots -/
theorem set_get {α : Type} {l : List α} {i j : Nat} {a b : α} (h : (l.set i a)[j]? = some b) : (i = j ∧ a = b) ∨ (i ≠ j ∧ l[j]? = some b) := by
  rw [List.getElem?_set] at h
  split at h
  · split at h
    · cases h; exact .inl ⟨‹_›, rfl⟩
    · cases h
  · exact .inr ⟨‹_›, h⟩
/-- slot i, own so far, is frozen -/
theorem Ok.freezeSlot (ok : Ok K G W ρ σ H) {i : Nat} {d : S} (h : ρ[i]? = some (some d)) : ∃ x W2, σ[i]? = some (some x) ∧ Go K G σ ρ W H (if d.isOwn = true then ρ.set i (some (.d d.frz)) else ρ) W2 H ∧ Dn K W2 H d.frz x := by
  obtain ⟨x, e, r⟩ := ok.val i d h
  cases ho : d.isOwn with
  | false =>
    cases d <;> first | (cases ho; done) | exact ⟨x, W, e, .refl ok, r⟩
  | true =>
    obtain ⟨p, o, rfl, hp⟩ := r.ow ho
    have hO : Ow ρ σ p := ⟨i, d, h, ho, e⟩
    obtain ⟨nf, nj, h0⟩ := ok.frs p hO
    have l : Le W H (W.add p) H := ⟨fun _ h => .inl h, fun _ h => h, fun _ _ => rfl⟩
    have al : Al (W.add p) H := ⟨fun a q => q.elim (ok.al.f a) fun e => ⟨o, by rw [e]; exact hp⟩, ok.al.j, fun a q z => z.elim (ok.al.d a q) fun e => nj (by rw [← e]; exact q)⟩
    have hd : Dn K (W.add p) H d.frz (.ref p) := by
      cases d with
      | own ds =>
        obtain ⟨q, vs, e1, e2, e3⟩ := r
        cases e1
        exact .lst (.inr rfl) e2 (e3.le l)
      | odic ds =>
        obtain ⟨q, vs, e1, e2, e3⟩ := r
        cases e1
        exact .dic (.inr rfl) ⟨.inl e2⟩ (e3.le l)
      | _ => cases ho
    have sub : ∀ a, Ow (ρ.set i (some (.d d.frz))) σ a → Ow ρ σ a ∧ a ≠ p := fun a ⟨j, f, f1, f2, f3⟩ => by
      rcases set_get f1 with ⟨z1, z2⟩ | ⟨z1, z2⟩
      · cases z2; cases f2
      · refine ⟨⟨j, f, z2, f2, f3⟩, fun q => ?_⟩
        subst q
        exact z1 (ok.inj i j d f a h z2 ho f2 e f3)
    refine ⟨.ref p, W.add p, e, ?_, hd⟩
    rw [if_pos rfl]
    refine ⟨⟨by rw [ok.len, List.length_set], fun j f hj => ?_, fun a hA => ?_, fun a b f f' c h1 h2 o1 o2 => ?_, al, ?_⟩, ?_, fun a h => (sub a h).1⟩
    · rcases set_get hj with ⟨z1, z2⟩ | ⟨z1, z2⟩
      · cases z2; subst z1; exact ⟨_, e, hd⟩
      · obtain ⟨y, e1, e2⟩ := ok.val j f z2
        exact ⟨y, e1, e2.le l fun _ _ _ => rfl⟩
    · obtain ⟨hA, hne⟩ := sub a hA
      obtain ⟨a1, a2, a3⟩ := ok.frs a hA
      exact ⟨fun z => z.elim a1 hne, a2, a3⟩
    · rcases set_get h1 with ⟨z1, z2⟩ | ⟨z1, z2⟩
      · cases z2; cases o1
      · rcases set_get h2 with ⟨y1, y2⟩ | ⟨y1, y2⟩
        · cases y2; cases o2
        · exact ok.inj a b f f' c z2 y2 o1 o2
    · exact ⟨ok.en.le.trans l, fun a q => q.elim (ok.en.nF a) fun e => .inr (.inl (by rw [e]; exact h0)), ok.en.nJ, ok.en.st, ok.en.up⟩
    · exact ⟨l, fun a q => q.elim .inl fun e => .inr (.inr (by rw [e]; exact hO)), fun _ q => .inl q, fun _ _ e _ _ => e, fun _ e => e⟩
def wVar (i : Nat) : WE := fun _ ρ R => match ρ[i]? with
  | some (some d) => R (.d d.frz) (if d.isOwn = true then ρ.set i (some (.d d.frz)) else ρ)
  | _ => False
theorem lE_var {i : Nat} {Q : VK} (h : lE K G T (wVar i) σ H Q) : tVar i σ H Q := by
  obtain ⟨W, ρ, R, Z, ok, h, hR, _⟩ := h
  unfold wVar at h
  split at h
  · rename_i d e
    obtain ⟨x, W2, e1, g, hd⟩ := ok.freezeSlot e
    exact ⟨x, e1, hR _ _ W2 x H h g (.of hd)⟩
  · exact h.elim
end
section
variable {X : Cx} {G : Gx} {T : WX} {e a b c : Expr} {w wa wb wc : WE} {pos p : Pos}
theorem de_var (i : Nat) {x : Str} (hN : X.N[i]? = some x := by rfl) (hv : Vis X.env.scope x := by first | exact Or.inl rfl | exact Or.inr (Or.inl rfl) | exact Or.inr (Or.inr rfl)) (hd : (x == ("__debug__" : Str)) = false := by decide)
    (hcd : (x == ("__classdict__" : Str)) = false := by decide) : DE X G T (.Name x pos) (wVar i) :=
  pe_weak (pv i hN hv hd hcd) fun σ H Q h => lE_var h
def wC (d : D) : WE := fun _ ρ R => R (.d d) ρ
theorem de_const {d : D} {x : V} (h : PE X e (tC x)) (hd : ∀ W H, Dn X.K W H d x) : DE X G T e (wC d) :=
  pe_weak h fun σ H Q ⟨W, ρ, R, Z, ok, h, hR, _⟩ => hR _ _ W x H h (.refl ok) (.of (hd W H))
theorem de_int {i j} : DE X G T (.Constant (.int i) j pos) (wC (.int i)) := de_const pe_int fun _ _ => .int i
theorem de_bl {i j} : DE X G T (.Constant (.bool i) j pos) (wC (.bl i)) := de_const pe_bl fun _ _ => .bl i
theorem de_non {j} : DE X G T (.Constant .none j pos) (wC .non) := de_const pe_non fun _ _ => .non
theorem de_str {i j} : DE X G T (.Constant (.str i) j pos) (wC (.str i)) := de_const pe_str fun _ _ => .str i
/-- an int, a text or a bool of the module's top -/
theorem de_gint {x : Str} {i : Int} {t : Tok} (hg : Gl X x) (hm : X.mg x = some (.int i t)) (hd : (x == ("__debug__" : Str)) = false := by decide) : DE X G T (.Name x pos) (wC (.int i)) :=
  de_const (pe_glob (v := .int i) hg hm ⟨t, rfl⟩ hd) fun _ _ => .int i
theorem de_gstr {x : Str} {i : Str} {t : Tok} (hg : Gl X x) (hm : X.mg x = some (.str i t)) (hd : (x == ("__debug__" : Str)) = false := by decide) : DE X G T (.Name x pos) (wC (.str i)) :=
  de_const (pe_glob (v := .str i) hg hm ⟨t, rfl⟩ hd) fun _ _ => .str i
theorem de_gref {x : Str} {a : Addr} (hg : Gl X x) (hm : X.mg x = some (.ref a)) (hd : (x == ("__debug__" : Str)) = false := by decide) : DE X G T (.Name x pos) (wC (.v (.ref a))) :=
  de_const (pe_glob (v := .ref a) hg hm rfl hd) fun _ _ => .v _
/-- a builtin class -/
theorem de_bty {x : Str} {n : String} (hg : Gl X x) (hm : X.mg x = none) (hv : bootBuiltins x = some (.type n)) (hn : x ≠ "__name__" := by decide) (hd : (x == ("__debug__" : Str)) = false := by decide) : DE X G T (.Name x pos) (wC (.v (.ty n))) :=
  de_const (pe_bltn (v := .ty n) hg hm hv rfl hn hd) fun _ _ => .v _

/-! ### two expressions -/
def wBin (f : D → D → (S → Prop) → Prop) (wa wb : WE) : WE := fun Z ρ R => wa Z ρ fun x ρ1 => wb Z ρ1 fun y ρ2 => f x.frz y.frz fun z => R z ρ2
/-- an operation on values, over data -/
def OpD (K : PySem.W.Frag) (r : R2) (f : D → D → (S → Prop) → Prop) : Prop :=
  ∀ (G : Gx) (W : Wd) (ρ : Rho) (σ : L2.St) (H : Hp) (d e : D) (x y : V) (R : S → Prop) (Q : VK), Ok K G W ρ σ H → Dn K W H d x → Dn K W H e y → f d e R →
    (∀ z W' v H', R z → Go K G σ ρ W H ρ W' H' → Res K H W' H' z v → Q v H') → r x y H Q
/-- evaluate a, freeze -/
theorem lE_then {K : PySem.W.Frag} {σ : L2.St} {ρ : Rho} {W : Wd} {H : Hp} {wa : WE} {Z : ZK} {R : D → Rho → Prop} {Q : VK} (ok : Ok K G W ρ σ H) (h : wa Z ρ fun x ρ1 => R x.frz ρ1) (hZ : lZ K G T Z σ ρ W H)
    (hq : ∀ d ρ1 W1 x H1, R d ρ1 → Go K G σ ρ W H ρ1 W1 H1 → Dn K W1 H1 d x → Q x H1) : lE K G T wa σ H Q :=
  ⟨W, ρ, _, Z, ok, h, fun d ρ1 W1 x H1 hr g r => by
    obtain ⟨W2, g2, hd, l⟩ := g.freeze ok r
    exact hq _ _ _ _ _ hr g2 hd, hZ⟩
theorem lE_bin {r : R2} {f : D → D → (S → Prop) → Prop} (ho : OpD X.K r f) {σ : L2.St} {H : Hp} {Q : VK} (h : lE X.K G T (wBin f wa wb) σ H Q) : tOp r (lE X.K G T wa) (lE X.K G T wb) σ H Q := by
  obtain ⟨W, ρ, R, Z, ok, h, hR, hZ⟩ := h
  refine lE_then (R := fun x ρ1 => wb Z ρ1 fun y ρ2 => f x y.frz fun z => R z ρ2) ok h hZ fun d ρ1 W1 x H1 h1 g1 d1 => ?_
  refine lE_then (R := fun y ρ2 => f d y fun z => R z ρ2) g1.ok h1 (hZ.go g1) fun e ρ2 W2 y H2 h2 g2 d2 => ?_
  refine ho G W2 ρ2 σ H2 d e x y _ Q g2.ok (d1.le g2.stp.le) d2 h2 fun z W' v H' hz g3 r3 => ?_
  exact hR z ρ2 W' v H' hz ((g1.trans g2).trans g3) (r3.up fun a q => (g1.trans g2).stp.up a q)
theorem de_op {op : Operator} {r : R2} {f : D → D → (S → Prop) → Prop} (hr : OpR X (binaryOp op) r) (ho : OpD X.K r f) (ha : DE X G T a wa) (hb : DE X G T b wb) : DE X G T (.BinOp a op b pos) (wBin f wa wb) :=
  pe_weak (pe_op hr ha hb) fun _ _ _ h => lE_bin ho h
theorem de_cmp {op : CmpOp} {r : R2} {f : D → D → (S → Prop) → Prop} (hr : OpR X (compareOp op) r) (ho : OpD X.K r f) (ha : DE X G T a wa) (hb : DE X G T b wb) (hm : behindInMarks op b = false) : DE X G T (.Compare a [op] [b] pos) (wBin f wa wb) :=
  pe_weak (pe_cmpR hr ha hb hm) fun _ _ _ h => lE_bin ho h
/-! ### tests -/
def S.isB (d : S) (R : Bool → Prop) : Prop := match d with
  | .d (.bl b) => R b
  | _ => False
theorem S.isB_of {d : S} {R : Bool → Prop} (h : d.isB R) : ∃ b, d = .d (.bl b) ∧ R b := by
  unfold S.isB at h
  split at h
  · exact ⟨_, rfl, h⟩
  · exact h.elim
def wB (w : WE) : WT := fun Z ρ R => w Z ρ fun d ρ' => d.isB fun b => R b ρ'
theorem lT_B {K : PySem.W.Frag} {σ : L2.St} {H : Hp} {Q : Bool → Hp → Prop} {t : TE} (ht : ∀ Q, lE K G T w σ H Q → t σ H Q) (h : lT K G T (wB w) σ H Q) : tTest t σ H Q := by
  obtain ⟨W, ρ, R, Z, ok, h, hR, hZ⟩ := h
  refine ht _ ⟨W, ρ, _, Z, ok, h, fun d ρ' W' x H' hb g r => ?_, hZ⟩
  obtain ⟨k, rfl, hb⟩ := S.isB_of hb
  have q : Dn K W' H' (.bl k) x := r.rs
  cases q
  exact ⟨k, rfl, hR _ _ _ _ hb g⟩
theorem dt_val (h : DE X G T e w) (he : ∀ whole, isTrue e X.env whole = (do let v ← whole; standAt e.pos; holding [v] (truthy v)) := by intro _; rfl) : DT X G T e (wB w) :=
  pt_weak (pt_val h he) fun _ _ _ h => lT_B (fun _ q => q) h
theorem dt_cmp {op : CmpOp} {r : R2} {f : D → D → (S → Prop) → Prop} (hr : OpR X (compareOp op) r) (ho : OpD X.K r f) (ha : DE X G T a wa) (hb : DE X G T b wb) (hm : behindInMarks op b = false) : DT X G T (.Compare a [op] [b] pos) (wB (wBin f wa wb)) :=
  pt_weak (pt_cmpR hr ha hb hm) fun _ _ _ h => lT_B (fun _ q => lE_bin ho q) h
/-- a op b op' c -/
def wChain (f f' : D → D → (S → Prop) → Prop) (wa wb wc : WE) : WE := fun Z ρ R => wa Z ρ fun x ρ1 => wb Z ρ1 fun y ρ2 => f x.frz y.frz fun z => z.isB fun k =>
  if k = true then wc Z ρ2 fun u ρ3 => f' y.frz u.frz fun z => R z ρ3 else R (.d (.bl false)) ρ2
theorem lE_chain {r r' : R2} {f f' : D → D → (S → Prop) → Prop} (ho : OpD X.K r f) (ho' : OpD X.K r' f') {σ : L2.St} {H : Hp} {Q : VK} (h : lE X.K G T (wChain f f' wa wb wc) σ H Q) : tChain r r' (lE X.K G T wa) (lE X.K G T wb) (lE X.K G T wc) σ H Q := by
  obtain ⟨W, ρ, R, Z, ok, h, hR, hZ⟩ := h
  refine lE_then (R := fun x ρ1 => wb Z ρ1 fun y ρ2 => f x y.frz fun z => z.isB fun k => if k = true then wc Z ρ2 fun u ρ3 => f' y.frz u.frz fun z => R z ρ3 else R (.d (.bl false)) ρ2) ok h hZ fun d ρ1 W1 x H1 h1 g1 d1 => ?_
  refine lE_then (R := fun y ρ2 => f d y fun z => z.isB fun k => if k = true then wc Z ρ2 fun u ρ3 => f' y u.frz fun z => R z ρ3 else R (.d (.bl false)) ρ2) g1.ok h1 (hZ.go g1) fun e ρ2 W2 y H2 h2 g2 d2 => ?_
  have g12 := g1.trans g2
  refine ho G W2 ρ2 σ H2 d e x y _ _ g2.ok (d1.le g2.stp.le) d2 h2 fun z W' v H' hz g3 r3 => ?_
  obtain ⟨k, rfl, hz⟩ := S.isB_of hz
  have q : Dn X.K W' H' (.bl k) v := r3.rs
  cases q
  have g13 := g12.trans g3
  refine ⟨k, rfl, ?_⟩
  cases k with
  | false => exact hR _ _ _ _ _ hz g13 (.of (.bl false))
  | true =>
    simp only [if_true] at hz ⊢
    refine lE_then (R := fun u ρ3 => f' e u fun z => R z ρ3) g3.ok hz (hZ.go g13) fun u ρ3 W3 y3 H3 h3 g4 d3 => ?_
    refine ho' G W3 ρ3 σ H3 e u y y3 _ Q g4.ok ((d2.le g3.stp.le).le g4.stp.le) d3 h3 fun z W5 v5 H5 hz5 g5 r5 => ?_
    exact hR z ρ3 W5 v5 H5 hz5 ((g13.trans g4).trans g5) (r5.up fun a q => (g13.trans g4).stp.up a q)
theorem de_chain {op op' : CmpOp} {r r' : R2} {f f' : D → D → (S → Prop) → Prop} (hr : OpR X (compareOp op) r) (hr' : OpR X (compareOp op') r') (ho : OpD X.K r f) (ho' : OpD X.K r' f') (ha : DE X G T a wa) (hb : DE X G T b wb) (hc : DE X G T c wc)
    (hm : lastMarks [op, op'] [b, c] = false := by with_unfolding_all rfl) : DE X G T (.Compare a [op, op'] [b, c] pos) (wChain f f' wa wb wc) :=
  pe_weak (pe_chain hr hr' ha hb hc hm) fun _ _ _ h => lE_chain ho ho' h
theorem dt_chain {op op' : CmpOp} {r r' : R2} {f f' : D → D → (S → Prop) → Prop} (hr : OpR X (compareOp op) r) (hr' : OpR X (compareOp op') r') (ho : OpD X.K r f) (ho' : OpD X.K r' f') (ha : DE X G T a wa) (hb : DE X G T b wb) (hc : DE X G T c wc)
    (hm : lastMarks [op, op'] [b, c] = false := by with_unfolding_all rfl) : DT X G T (.Compare a [op, op'] [b, c] pos) (wB (wChain f f' wa wb wc)) :=
  pt_weak (pt_chain hr hr' ha hb hc hm) fun _ _ _ h => lT_B (fun _ q => lE_chain ho ho' q) h
/-! ### and, or, not -/
def DW (X : Cx) (G : Gx) (T : WX) (e : Expr) (w : WT) : Prop := PW X e (lT X.K G T w)
variable {t u v' : WT} {rest : List Expr}
def wAnd (t u : WT) : WT := fun Z ρ R => t Z ρ fun c ρ1 => if c = true then u Z ρ1 R else R false ρ1
def wOr (t u : WT) : WT := fun Z ρ R => t Z ρ fun c ρ1 => if c = true then R true ρ1 else u Z ρ1 R
def wNot (t : WT) : WT := fun Z ρ R => t Z ρ fun c ρ1 => R (!c) ρ1
theorem DW.pt (h : DW X G T e t) : DT X G T e t := PW.pt h
theorem dw_and1 (h : DT X G T a t) : DW X G T (.BoolOp .And [a] pos) t := pw_and1 h
theorem dw_or1 (h : DT X G T a t) : DW X G T (.BoolOp .Or [a] pos) t := pw_or1 h
theorem lT_then {K : PySem.W.Frag} {σ : L2.St} {ρ : Rho} {W : Wd} {H : Hp} {Z : ZK} {R : Bool → Rho → Prop} {Q : Bool → Hp → Prop} (ok : Ok K G W ρ σ H) (h : t Z ρ R) (hZ : lZ K G T Z σ ρ W H)
    (hq : ∀ d ρ1 W1 H1, R d ρ1 → Go K G σ ρ W H ρ1 W1 H1 → Q d H1) : lT K G T t σ H Q := ⟨W, ρ, R, Z, ok, h, hq, hZ⟩
theorem dw_and (ha : DT X G T a t) (hb : DW X G T (.BoolOp .And (b :: rest) pos) u) : DW X G T (.BoolOp .And (a :: b :: rest) pos) (wAnd t u) :=
  pw_weak (pw_and ha hb) fun σ H Q ⟨W, ρ, R, Z, ok, h, hR, hZ⟩ => lT_then ok h hZ fun c ρ1 W1 H1 hc g => by
    cases c with
    | true => exact ⟨W1, ρ1, R, Z, g.ok, hc, fun b ρ2 W2 H2 h2 g2 => hR b ρ2 W2 H2 h2 (g.trans g2), hZ.go g⟩
    | false => exact hR _ _ _ _ hc g
theorem dw_or (ha : DT X G T a t) (hb : DW X G T (.BoolOp .Or (b :: rest) pos) u) : DW X G T (.BoolOp .Or (a :: b :: rest) pos) (wOr t u) :=
  pw_weak (pw_or ha hb) fun σ H Q ⟨W, ρ, R, Z, ok, h, hR, hZ⟩ => lT_then ok h hZ fun c ρ1 W1 H1 hc g => by
    cases c with
    | false => exact ⟨W1, ρ1, R, Z, g.ok, hc, fun b ρ2 W2 H2 h2 g2 => hR b ρ2 W2 H2 h2 (g.trans g2), hZ.go g⟩
    | true => exact hR _ _ _ _ hc g
theorem dt_not (ha : DT X G T a t) : DT X G T (.UnaryOp .Not a pos) (wNot t) :=
  pt_weak (pt_not ha) fun σ H Q ⟨W, ρ, R, Z, ok, h, hR, hZ⟩ => lT_then ok h hZ fun c ρ1 W1 H1 hc g => hR _ _ _ _ hc g
/-- .. as values -/
def wAndV (wa wb : WE) : WE := fun Z ρ R => wa Z ρ fun x ρ1 => x.isB fun c => if c = true then wb Z ρ1 R else R (.d (.bl false)) ρ1
def wOrV (wa wb : WE) : WE := fun Z ρ R => wa Z ρ fun x ρ1 => x.isB fun c => if c = true then R (.d (.bl true)) ρ1 else wb Z ρ1 R
def wNotV (wa : WE) : WE := fun Z ρ R => wa Z ρ fun x ρ1 => x.isB fun c => R (.d (.bl (!c))) ρ1
theorem de_one {op} (h : DE X G T a wa) : DE X G T (.BoolOp op [a] pos) wa := pe_one h
theorem lE_bl {K : PySem.W.Frag} {σ : L2.St} {ρ : Rho} {W : Wd} {H : Hp} {Z : ZK} {R : Bool → Rho → Prop} {Q : Bool → Hp → Prop} (ok : Ok K G W ρ σ H) (h : wa Z ρ fun x ρ1 => x.isB fun c => R c ρ1) (hZ : lZ K G T Z σ ρ W H)
    (hq : ∀ c ρ1 W1 H1, R c ρ1 → Go K G σ ρ W H ρ1 W1 H1 → Q c H1) : lE K G T wa σ H fun x H1 => ∃ c, x = .bl c ∧ Q c H1 :=
  ⟨W, ρ, _, Z, ok, h, fun d ρ1 W1 x H1 hr g r => by
    obtain ⟨k, rfl, hr⟩ := S.isB_of hr
    have q : Dn K W1 H1 (.bl k) x := r.rs
    cases q
    exact ⟨k, rfl, hq _ _ _ _ hr g⟩, hZ⟩
theorem lE_on {K : PySem.W.Frag} {σ : L2.St} {ρ ρ1 : Rho} {W W1 : Wd} {H H1 : Hp} {Z : ZK} {R : S → Rho → Prop} {Q : VK} (g : Go K G σ ρ W H ρ1 W1 H1) (h : w Z ρ1 R) (hR : ∀ d ρ' W' x H', R d ρ' → Go K G σ ρ W H ρ' W' H' → Res K H W' H' d x → Q x H')
    (hZ : lZ K G T Z σ ρ W H) : lE K G T w σ H1 Q :=
  ⟨W1, ρ1, R, Z, g.ok, h, fun d ρ2 W2 x H2 h2 g2 r => hR d ρ2 W2 x H2 h2 (g.trans g2) (r.up g.stp.up), hZ.go g⟩
theorem de_and (ha : DE X G T a wa) (hb : DE X G T (.BoolOp .And (b :: rest) pos) wb) : DE X G T (.BoolOp .And (a :: b :: rest) pos) (wAndV wa wb) :=
  pe_weak (pe_and ha hb) fun σ H Q ⟨W, ρ, R, Z, ok, h, hR, hZ⟩ => lE_bl ok h hZ fun c ρ1 W1 H1 hc g => by
    cases c with
    | true => exact lE_on g hc hR hZ
    | false => exact hR _ _ _ _ _ hc g (.of (.bl false))
theorem de_or (ha : DE X G T a wa) (hb : DE X G T (.BoolOp .Or (b :: rest) pos) wb) : DE X G T (.BoolOp .Or (a :: b :: rest) pos) (wOrV wa wb) :=
  pe_weak (pe_or ha hb) fun σ H Q ⟨W, ρ, R, Z, ok, h, hR, hZ⟩ => lE_bl ok h hZ fun c ρ1 W1 H1 hc g => by
    cases c with
    | false => exact lE_on g hc hR hZ
    | true => exact hR _ _ _ _ _ hc g (.of (.bl true))
theorem de_not (ha : DE X G T a wa) : DE X G T (.UnaryOp .Not a pos) (wNotV wa) :=
  pe_weak (pe_not ha) fun σ H Q ⟨W, ρ, R, Z, ok, h, hR, hZ⟩ => lE_bl ok h hZ fun c ρ1 W1 H1 hc g => hR _ _ _ _ _ hc g (.of (.bl _))
/-- a if t else b -/
def wIfE (t : WT) (wa wb : WE) : WE := fun Z ρ R => t Z ρ fun c ρ1 => if c = true then wa Z ρ1 R else wb Z ρ1 R
theorem de_if {c : Expr} (hc : DT X G T c t) (ha : DE X G T a wa) (hb : DE X G T b wb) : DE X G T (.IfExp c a b pos) (wIfE t wa wb) :=
  pe_weak (pe_ifExp hc ha hb) fun σ H Q ⟨W, ρ, R, Z, ok, h, hR, hZ⟩ => lT_then ok h hZ fun c ρ1 W1 H1 hc g => by
    cases c with
    | true => exact lE_on g hc hR hZ
    | false => exact lE_on g hc hR hZ
/-- one operand -/
def wUn (f : D → (S → Prop) → Prop) (wa : WE) : WE := fun Z ρ R => wa Z ρ fun x ρ1 => f x.frz fun z => R z ρ1
def UnD (K : PySem.W.Frag) (r : V → Hp → VK → Prop) (f : D → (S → Prop) → Prop) : Prop :=
  ∀ (G : Gx) (W : Wd) (ρ : Rho) (σ : L2.St) (H : Hp) (d : D) (x : V) (R : S → Prop) (Q : VK), Ok K G W ρ σ H → Dn K W H d x → f d R →
    (∀ z W' v H', R z → Go K G σ ρ W H ρ W' H' → Res K H W' H' z v → Q v H') → r x H Q
theorem lE_un {K : PySem.W.Frag} {r : V → Hp → VK → Prop} {f : D → (S → Prop) → Prop} (ho : UnD K r f) {σ : L2.St} {H : Hp} {Q : VK} (h : lE K G T (wUn f wa) σ H Q) : lE K G T wa σ H fun x H1 => r x H1 Q := by
  obtain ⟨W, ρ, R, Z, ok, h, hR, hZ⟩ := h
  refine lE_then (R := fun x ρ1 => f x fun z => R z ρ1) ok h hZ fun d ρ1 W1 x H1 h1 g1 d1 => ?_
  exact ho G W1 ρ1 σ H1 d x _ Q g1.ok d1 h1 fun z W' v H' hz g r => hR z ρ1 W' v H' hz (g1.trans g) (r.up g1.stp.up)
def fNeg (d : D) (R : S → Prop) : Prop := match d with
  | .int i => R (.d (.int (-i)))
  | _ => False
theorem ud_neg {K : PySem.W.Frag} : UnD K (rU fun i => .int (-i)) fNeg := by
  intro G W ρ σ H d x R Q ok h f k
  cases h <;> first | exact f.elim | skip
  exact ⟨_, rfl, k _ _ _ _ f (.refl ok) (.of (.int _))⟩
theorem de_neg (ha : DE X G T a wa) : DE X G T (.UnaryOp .USub a pos) (wUn fNeg wa) :=
  pe_weak (pe_un un_neg ha) fun _ _ _ h => lE_un ud_neg h
/-! ### argument lists, displays -/
def wNil : WA := fun _ ρ R => R [] ρ
def wCons (w : WE) (u : WA) : WA := fun Z ρ R => w Z ρ fun x ρ1 => u Z ρ1 fun xs ρ2 => R (x.frz :: xs) ρ2
theorem da_nil : DA X G T [] wNil := pa_weak pa_nil fun σ H Q ⟨W, ρ, R, Z, ok, h, hR, hZ⟩ => hR _ _ _ _ _ h (.refl ok) .nil
theorem da_cons {es : List Expr} {u : WA} (ha : DE X G T a wa) (hr : DA X G T es u) (hs : starEach (a :: es) X.env = (false, eval a X.env) :: starEach es X.env := by rfl) : DA X G T (a :: es) (wCons wa u) :=
  pa_weak (pa_cons ha hr hs) fun σ H Q ⟨W, ρ, R, Z, ok, h, hR, hZ⟩ => by
    refine lE_then (R := fun x ρ1 => u Z ρ1 fun xs ρ2 => R (x :: xs) ρ2) ok h hZ fun d ρ1 W1 x H1 h1 g1 d1 => ?_
    exact ⟨W1, ρ1, _, Z, g1.ok, h1, fun ds ρ2 W2 xs H2 h2 g2 d2 => hR _ _ _ _ _ h2 (g1.trans g2) (.cons (d1.le g2.stp.le) d2), hZ.go g1⟩
def wTup (u : WA) : WE := fun Z ρ R => u Z ρ fun ds ρ1 => ds.length ≤ sizeLine ∧ R (.d (.tup ds)) ρ1
def wLst (u : WA) : WE := fun Z ρ R => u Z ρ fun ds ρ1 => ds.length ≤ sizeLine ∧ R (.own ds) ρ1
/-- a frozen new object -/
theorem Go.newF {K : PySem.W.Frag} {σ : L2.St} {ρ : Rho} {W : Wd} {H : Hp} {p : Addr} {o : HO} (ok : Ok K G W ρ σ H) (hp : H p = none) : Go K G σ ρ W H ρ (W.add p) (upd H p o) :=
  ok.grow (step_frz ok.al hp) (al_frz ok.al hp)
theorem Go.new {K : PySem.W.Frag} {σ : L2.St} {ρ : Rho} {W : Wd} {H : Hp} {p : Addr} {o : HO} (ok : Ok K G W ρ σ H) (hp : H p = none) : Go K G σ ρ W H ρ W (upd H p o) :=
  ok.grow (step_new ok.al hp) (al_new ok.al hp)
theorem res_tup {K : PySem.W.Frag} {σ : L2.St} {ρ : Rho} {W : Wd} {H : Hp} {p : Addr} {ds : List D} {xs : List V} (ok : Ok K G W ρ σ H) (hp : H p = none) (h : DnA K W H ds xs) : Dn K (W.add p) (upd H p (.tup xs)) (.tup ds) (.ref p) :=
  .tup (.inl ⟨.inr rfl, Rd.of upd_same⟩) (h.le (step_frz ok.al hp).le)
theorem res_own {K : PySem.W.Frag} {σ : L2.St} {ρ : Rho} {W : Wd} {H H0 : Hp} {p : Addr} {ds : List D} {xs : List V} (ok : Ok K G W ρ σ H) (hp : H p = none) (h0 : H0 p = none) (h : DnA K W H ds xs) : Res K H0 W (upd H p (.lst xs)) (.own ds) (.ref p) := by
  refine ⟨⟨p, xs, rfl, upd_same, h.le (step_new ok.al hp).le⟩, fun _ q e => ?_⟩
  cases e
  refine ⟨fun z => ?_, fun z => ?_, h0⟩
  · obtain ⟨o, e⟩ := ok.al.f p z; rw [hp] at e; cases e
  · obtain ⟨x, y, z', e, _⟩ := ok.al.j p z; rw [hp] at e; cases e
theorem res_odic {K : PySem.W.Frag} {σ : L2.St} {ρ : Rho} {W : Wd} {H H0 : Hp} {p : Addr} {ds : List (Key × D)} {xs : List (Key × V)} (ok : Ok K G W ρ σ H) (hp : H p = none) (h0 : H0 p = none) (h : DnK K W H ds xs) : Res K H0 W (upd H p (.dK xs)) (.odic ds) (.ref p) := by
  refine ⟨⟨p, xs, rfl, upd_same, h.le (step_new ok.al hp).le⟩, fun _ q e => ?_⟩
  cases e
  refine ⟨fun z => ?_, fun z => ?_, h0⟩
  · obtain ⟨o, e⟩ := ok.al.f p z; rw [hp] at e; cases e
  · obtain ⟨x, y, z', e, _⟩ := ok.al.j p z; rw [hp] at e; cases e
theorem de_tup {es : List Expr} {u : WA} {x1} (h : DA X G T es u) : DE X G T (.Tuple es x1 pos) (wTup u) :=
  pe_weak (pe_tup h) fun σ H Q ⟨W, ρ, R, Z, ok, h, hR, hZ⟩ => ⟨W, ρ, _, Z, ok, h, fun ds ρ1 W1 xs H1 ⟨hl, h1⟩ g d => ⟨by rw [← d.length]; exact hl, fun p hp => hR _ _ _ _ _ h1 (g.trans (.newF g.ok hp)) (.of (res_tup g.ok hp d))⟩, hZ⟩
theorem de_lst {es : List Expr} {u : WA} (h : DA X G T es u) : DE X G T (.List es pos) (wLst u) :=
  pe_weak (pe_lst h) fun σ H Q ⟨W, ρ, R, Z, ok, h, hR, hZ⟩ => ⟨W, ρ, _, Z, ok, h, fun ds ρ1 W1 xs H1 ⟨hl, h1⟩ g d => ⟨by rw [← d.length]; exact hl, fun p hp => hR _ _ _ _ _ h1 (g.trans (.new g.ok hp)) (res_own g.ok hp (g.stp.up p hp) d)⟩, hZ⟩
/-! ### calls of built-ins -/
def wCallB (f : List D → (S → Prop) → Prop) (u : WA) : WE := fun Z ρ R => u Z ρ fun ds ρ1 => f ds fun z => R z ρ1
def CaD (K : PySem.W.Frag) (r : List V → Hp → VK → Prop) (f : List D → (S → Prop) → Prop) : Prop :=
  ∀ (G : Gx) (W : Wd) (ρ : Rho) (σ : L2.St) (H : Hp) (ds : List D) (xs : List V) (R : S → Prop) (Q : VK), Ok K G W ρ σ H → DnA K W H ds xs → f ds R →
    (∀ z W' v H', R z → Go K G σ ρ W H ρ W' H' → Res K H W' H' z v → Q v H') → r xs H Q
theorem lE_callB {K : PySem.W.Frag} {r : List V → Hp → VK → Prop} {f : List D → (S → Prop) → Prop} {u : WA} (ho : CaD K r f) {σ : L2.St} {H : Hp} {Q : VK} (h : lE K G T (wCallB f u) σ H Q) : tCB r (lA K G T u) σ H Q := by
  obtain ⟨W, ρ, R, Z, ok, h, hR, hZ⟩ := h
  exact ⟨W, ρ, _, Z, ok, h, fun ds ρ1 W1 xs H1 h1 g d => ho G W1 ρ1 σ H1 ds xs _ Q g.ok d h1 fun z W' v H' hz g2 r => hR z ρ1 W' v H' hz (g.trans g2) (r.up g.stp.up), hZ⟩
theorem de_callB {x : Str} {id : String} {es : List Expr} {r : List V → Hp → VK → Prop} {f : List D → (S → Prop) → Prop} {u : WA} (hr : CallR X (.builtin id) r) (ho : CaD X.K r f) (hg : Gl X x) (hm : X.mg x = none) (hv : bootBuiltins x = some (.builtin id))
    (ha : DA X G T (e :: es) u) (hn : x ≠ "__name__" := by decide) (hdb : (x == ("__debug__" : Str)) = false := by decide)
    (he : starEach (e :: es) X.env = (false, eval e X.env) :: starEach es X.env := by rfl) (hpl : (backTo pos (starEach es X.env)).any (·.1) = false := by rfl) : DE X G T (.Call (.Name x p) (e :: es) [] pos) (wCallB f u) :=
  pe_weak (pe_callB hr hg hm hv ha hn hdb he hpl) fun _ _ _ h => lE_callB ho h
theorem de_callTy {x : Str} {n : String} {es : List Expr} {r : List V → Hp → VK → Prop} {f : List D → (S → Prop) → Prop} {u : WA} (hr : CallR X (.type n) r) (ho : CaD X.K r f) (hg : Gl X x) (hm : X.mg x = none) (hv : bootBuiltins x = some (.type n))
    (ha : DA X G T (e :: es) u) (hn : x ≠ "__name__" := by decide) (hdb : (x == ("__debug__" : Str)) = false := by decide)
    (he : starEach (e :: es) X.env = (false, eval e X.env) :: starEach es X.env := by rfl) (hpl : (backTo pos (starEach es X.env)).any (·.1) = false := by rfl) : DE X G T (.Call (.Name x p) (e :: es) [] pos) (wCallB f u) :=
  pe_weak (pe_callTy hr hg hm hv ha hn hdb he hpl) fun _ _ _ h => lE_callB ho h
end
end DL

/-! DL2: operators and built-ins over data. -/
namespace DL
open PySem PySem.Spec L2
/-! ### data that can be compared and shown -/
mutual
def D.py : D → PyData
  | .non => .none
  | .bl b => .bool b
  | .int i => .int i
  | .str s => .str s
  | .tup ds => .tuple (D.pys ds)
  | .lst ds => .list (D.pys ds)
  | .rls ds => .list (D.pys ds)
  | _ => .none
def D.pys : List D → List PyData
  | [] => []
  | d :: ds => d.py :: D.pys ds
end
mutual
def D.isPy : D → Bool
  | .non => true
  | .bl _ => true
  | .int _ => true
  | .str _ => true
  | .tup ds => D.arePy ds
  | .lst ds => D.arePy ds
  | .rls ds => D.arePy ds
  | _ => false
def D.arePy : List D → Bool
  | [] => true
  | d :: ds => d.isPy && D.arePy ds
end
def D.scl : D → Bool
  | .non => true | .bl _ => true | .int _ => true | .str _ => true | _ => false
/-- == may be asked -/
def D.okEq (d : D) : Bool := d.isPy && SeqAt.shaped d.py
def D.okSc : D → D → Bool
  | .bl _, .int _ => false | .int _, .bl _ => false | d, e => d.scl && e.scl
def D.cmpOk (d e : D) : Bool := D.okSc d e || (d.okEq && e.okEq)
def D.eqb (d e : D) : Bool := PyData.eqv d.py e.py
def fEq (d e : D) (R : S → Prop) : Prop := D.cmpOk d e = true ∧ R (.d (.bl (D.eqb d e)))
def fNe (d e : D) (R : S → Prop) : Prop := D.cmpOk d e = true ∧ R (.d (.bl (!D.eqb d e)))
section
variable {K : PySem.W.Frag} {W : Wd} {H : Hp}
mutual
theorem Dn.dp : ∀ {d : D} {x : V}, Dn K W H d x → d.isPy = true → Dp K H x d.py
  | _, _, .non, _ => .non
  | _, _, .bl b, _ => .bl b
  | _, _, .int i, _ => .int i
  | _, _, .str s, _ => .str s
  | _, _, .tup h1 h2, p => .tup h1.sq (h2.dps p)
  | _, _, .lst _ h1 h2, p => .lst (SqL.of h1) (h2.dps p)
  | _, _, .rls h1 h2, p => .lst h1.sq (h2.dps p)
  | _, _, .dic _ _ _, p => nomatch (show false = true from p)
  | _, _, .ins _ _ _, p => nomatch (show false = true from p)
  | _, _, .jar _, p => nomatch (show false = true from p)
  | _, _, .v _, p => nomatch (show false = true from p)
theorem DnA.dps : ∀ {d : List D} {x : List V}, DnA K W H d x → D.arePy d = true → DpAll K H x (D.pys d)
  | _, _, .nil, _ => .nil
  | _, _, .cons h1 h2, p => by
    have p' : (D.isPy _ && D.arePy _) = true := p
    rw [Bool.and_eq_true] at p'
    exact .cons (h1.dp p'.1) (h2.dps p'.2)
end
theorem scal_of {d e : D} {x y : V} (h : Dn K W H d x) (g : Dn K W H e y) (o : D.okSc d e = true) : scal x y = true ∧ decide (x = y) = D.eqb d e := by
  cases h <;> cases g <;> first | (cases o; done) | (refine ⟨rfl, ?_⟩; first | exact dec_int | exact dec_bl | exact dec_str | (simp [D.eqb, D.py, PyData.eqv]; done))
def rEqA (K : PySem.W.Frag) : R2 := fun x y H Q => rEq x y H Q ∨ rEqD K x y H Q
def rNeA (K : PySem.W.Frag) : R2 := fun x y H Q => rNe x y H Q ∨ rNeD K x y H Q
theorem or_eqA {X : Cx} (hu : X.A.units + 64 < cLine) : OpR X (compareOp .Eq) (rEqA X.K) := OpR.or op_eq (op_eqD hu)
theorem or_neA {X : Cx} (hu : X.A.units + 64 < cLine) : OpR X (compareOp .NotEq) (rNeA X.K) := OpR.or op_ne (op_neD hu)
theorem od_eq : OpD K (rEqA K) fEq := by
  intro G W ρ σ H d e x y R Q ok h g ⟨f, r⟩ k
  rcases Bool.or_eq_true _ _ |>.mp f with o | o
  · obtain ⟨a, b⟩ := scal_of h g o
    exact .inl ⟨a, by rw [b]; exact k _ _ _ _ r (.refl ok) (.of (.bl _))⟩
  · simp only [D.okEq, Bool.and_eq_true] at o
    exact .inr ⟨_, _, h.dp o.1.1, g.dp o.2.1, o.1.2, o.2.2, k _ _ _ _ r (.refl ok) (.of (.bl _))⟩
theorem od_ne : OpD K (rNeA K) fNe := by
  intro G W ρ σ H d e x y R Q ok h g ⟨f, r⟩ k
  rcases Bool.or_eq_true _ _ |>.mp f with o | o
  · obtain ⟨a, b⟩ := scal_of h g o
    exact .inl ⟨a, by rw [b]; exact k _ _ _ _ r (.refl ok) (.of (.bl _))⟩
  · simp only [D.okEq, Bool.and_eq_true] at o
    exact .inr ⟨_, _, h.dp o.1.1, g.dp o.2.1, o.1.2, o.2.2, k _ _ _ _ r (.refl ok) (.of (.bl _))⟩
/-! ### order, is None, in -/
def fI2 (g : Int → Int → D) (d e : D) (R : S → Prop) : Prop := match d, e with
  | .int i, .int j => R (.d (g i j))
  | _, _ => False
theorem od_i2 {g : Int → Int → V} {g' : Int → Int → D} (hg : ∀ W H i j, Dn K W H (g' i j) (g i j)) : OpD K (rI0 g) (fI2 g') := by
  intro G W ρ σ H d e x y R Q ok h h' f k
  cases h <;> first | exact f.elim | skip
  cases h' <;> first | exact f.elim | skip
  exact ⟨_, _, rfl, rfl, k _ _ _ _ f (.refl ok) (.of (hg _ _ _ _))⟩
abbrev fLt := fI2 fun i j => .bl (decide (i < j))
abbrev fLe := fI2 fun i j => .bl (decide (i ≤ j))
abbrev fGt := fI2 fun i j => .bl (decide (j < i))
abbrev fGe := fI2 fun i j => .bl (decide (j ≤ i))
theorem od_lt : OpD K (rI0 fun i j => .bl (decide (i < j))) fLt := od_i2 fun _ _ _ _ => .bl _
theorem od_le : OpD K (rI0 fun i j => .bl (decide (i ≤ j))) fLe := od_i2 fun _ _ _ _ => .bl _
theorem od_gt : OpD K (rI0 fun i j => .bl (decide (j < i))) fGt := od_i2 fun _ _ _ _ => .bl _
theorem od_ge : OpD K (rI0 fun i j => .bl (decide (j ≤ i))) fGe := od_i2 fun _ _ _ _ => .bl _
def D.isNon (d : D) (R : Bool → Prop) : Prop := match d with
  | .non => R true
  | .v _ => False
  | _ => R false
def fIsN (d _e : D) (R : S → Prop) : Prop := d.isNon fun b => R (.d (.bl b))
def fNotN (d _e : D) (R : S → Prop) : Prop := d.isNon fun b => R (.d (.bl (!b)))
end
section
variable {X : Cx} {G : Gx} {T : WX} {a b : Expr} {wa : WE} {pos : Pos}
theorem dn_non {K : PySem.W.Frag} {W : Wd} {H : Hp} {d : D} {x : V} (h : Dn K W H d x) {R : Bool → Prop} (f : d.isNon R) : R (decide (x = .non)) := by
  cases h <;> first | exact f.elim | exact f
theorem de_isN {j p} (ha : DE X G T a wa) : DE X G T (.Compare a [.Is] [.Constant .none j p] pos) (wUn (fun d R => d.isNon fun b => R (.d (.bl b))) wa) :=
  pe_weak (pe_cmp (pc_isN ha)) fun σ H Q h => lE_un (K := X.K) (r := fun x H Q => Q (.bl (decide (x = .non))) H) (fun G W ρ σ H d x R Q ok h f k => k _ _ _ _ (dn_non h f) (.refl ok) (.of (.bl _))) h
theorem de_notN {j p} (ha : DE X G T a wa) : DE X G T (.Compare a [.IsNot] [.Constant .none j p] pos) (wUn (fun d R => d.isNon fun b => R (.d (.bl (!b)))) wa) :=
  pe_weak (pe_cmp (pc_notN ha)) fun σ H Q h => lE_un (K := X.K) (r := fun x H Q => Q (.bl (!decide (x = .non))) H) (fun G W ρ σ H d x R Q ok h f k => k _ _ _ _ (dn_non h f) (.refl ok) (.of (.bl _))) h
theorem tB_test (t : TE) : tB t = tTest t := rfl
theorem dt_isN {j p} (ha : DE X G T a wa) : DT X G T (.Compare a [.Is] [.Constant .none j p] pos) (wB (wUn (fun d R => d.isNon fun b => R (.d (.bl b))) wa)) :=
  pt_weak (pt_cmp (pc_isN ha)) fun σ H Q h => lT_B (t := tIsN (lE X.K G T wa)) (fun Q h => lE_un (K := X.K) (r := fun x H Q => Q (.bl (decide (x = .non))) H) (fun G W ρ σ H d x R Q ok h f k => k _ _ _ _ (dn_non h f) (.refl ok) (.of (.bl _))) h) h
theorem dt_notN {j p} (ha : DE X G T a wa) : DT X G T (.Compare a [.IsNot] [.Constant .none j p] pos) (wB (wUn (fun d R => d.isNon fun b => R (.d (.bl (!b)))) wa)) :=
  pt_weak (pt_cmp (pc_notN ha)) fun σ H Q h => lT_B (t := tNotN (lE X.K G T wa)) (fun Q h => lE_un (K := X.K) (r := fun x H Q => Q (.bl (!decide (x = .non))) H) (fun G W ρ σ H d x R Q ok h f k => k _ _ _ _ (dn_non h f) (.refl ok) (.of (.bl _))) h) h
end
/-! ### arithmetic -/
def fAdd (d e : D) (R : S → Prop) : Prop := match d, e with
  | .int i, .int j => R (.d (.int (i + j)))
  | .str i, .str j => i.length + j.length ≤ sizeLine ∧ R (.d (.str (i ++ j)))
  | .tup i, .tup j => i.length + j.length ≤ sizeLine ∧ R (.d (.tup (i ++ j)))
  | .lst i, .lst j => i.length + j.length ≤ sizeLine ∧ R (.own (i ++ j))
  | _, _ => False
abbrev rAddI : R2 := rI0 fun i j => .int (i + j)
abbrev rAddS : R2 := fun x y H Q => ∃ i j, x = .str i ∧ y = .str j ∧ i.length + j.length ≤ sizeLine ∧ Q (.str (i ++ j)) H
def rAddA (K : PySem.W.Frag) : R2 := fun x y H Q => ((rAddI x y H Q ∨ rAddS x y H Q) ∨ rCatA K x y H Q) ∨ rCat x y H Q
section
variable {K : PySem.W.Frag}
theorem or_add {X : Cx} : OpR X (binaryOp .Add) (rAddA X.K) := ((op_add.or op_add_str).or op_catA).or op_cat
theorem od_add : OpD K (rAddA K) fAdd := by
  intro G W ρ σ H d e x y R Q ok h h' f k
  cases h with
  | int i => cases h' with
    | int j => exact .inl (.inl (.inl ⟨_, _, rfl, rfl, k _ _ _ _ f (.refl ok) (.of (.int _))⟩))
    | _ => exact f.elim
  | str i => cases h' with
    | str j => exact .inl (.inl (.inr ⟨_, _, rfl, rfl, f.1, k _ _ _ _ f.2 (.refl ok) (.of (.str _))⟩))
    | _ => exact f.elim
  | tup h1 h2 => cases h' with
    | tup g1 g2 =>
      refine .inl (.inr ⟨_, _, _, _, rfl, rfl, h1.sq, g1.sq, by rw [← h2.length, ← g2.length]; exact f.1, fun q => ?_, fun _ q => ?_, fun _ _ p hp => ?_⟩)
      · subst q; cases h2
        exact k _ _ _ _ f.2 (.refl ok) (.of (.tup g1 g2))
      · subst q; cases g2
        refine k _ _ _ _ f.2 (.refl ok) (.of ?_)
        rw [List.append_nil]; exact .tup h1 h2
      · exact k _ _ _ _ f.2 (.newF ok hp) (.of (res_tup ok hp (h2.append g2)))
    | _ => exact f.elim
  | lst h0 h1 h2 => cases h' with
    | lst g0 g1 g2 =>
      exact .inr ⟨_, _, _, _, rfl, rfl, h1, g1, by rw [← h2.length, ← g2.length]; exact f.1, fun p hp => k _ _ _ _ f.2 (.new ok hp) (res_own ok hp hp (h2.append g2))⟩
    | _ => exact f.elim
  | _ => exact f.elim
def fSub := fI2 fun i j => .int (i - j)
theorem od_sub : OpD K (rI0 fun i j => .int (i - j)) fSub := od_i2 fun _ _ _ _ => .int _
def MulOk (i j : Int) : Prop := CMul i j ∨ CMulW i j
def fMul (d e : D) (R : S → Prop) : Prop := match d, e with
  | .int i, .int j => MulOk i j ∧ R (.d (.int (i * j)))
  | .lst i, .int j => (-(2 ^ 63) ≤ j ∧ j < 2 ^ 63) ∧ i.length * j.toNat ≤ sizeLine ∧ R (.own (List.replicate j.toNat i).flatten)
  | .tup i, .int j => i ≠ [] ∧ (2 ≤ j ∧ j ≤ 1000) ∧ i.length ≤ 1000 ∧ R (.d (.tup (List.replicate j.toNat i).flatten))
  | _, _ => False
def rMulA (K : PySem.W.Frag) : R2 := fun x y H Q => (((rI CMul fun i j => .int (i * j)) x y H Q ∨ (rI CMulW fun i j => .int (i * j)) x y H Q) ∨ rRep x y H Q) ∨ rRepT K x y H Q
theorem or_mul {X : Cx} : OpR X (binaryOp .Mult) (rMulA X.K) := ((op_mul.or op_mulW).or op_rep).or op_repT
theorem DnA.rep {W : Wd} {H : Hp} {ds : List D} {xs : List V} (h : DnA K W H ds xs) : ∀ n : Nat, DnA K W H (List.replicate n ds).flatten (List.replicate n xs).flatten
  | 0 => .nil
  | n + 1 => by
    rw [List.replicate_succ, List.replicate_succ, List.flatten_cons, List.flatten_cons]
    exact h.append (h.rep n)
theorem od_mul : OpD K (rMulA K) fMul := by
  intro G W ρ σ H d e x y R Q ok h h' f k
  cases h with
  | int i => cases h' with
    | int j =>
      rcases f with ⟨c | c, f⟩
      · exact .inl (.inl (.inl ⟨_, _, rfl, rfl, c, k _ _ _ _ f (.refl ok) (.of (.int _))⟩))
      · exact .inl (.inl (.inr ⟨_, _, rfl, rfl, c, k _ _ _ _ f (.refl ok) (.of (.int _))⟩))
    | _ => exact f.elim
  | lst h0 h1 h2 => cases h' with
    | int j => exact .inl (.inr ⟨_, _, _, rfl, rfl, h1, f.1.1, f.1.2, by rw [← h2.length]; exact f.2.1, fun p hp => k _ _ _ _ f.2.2 (.new ok hp) (res_own ok hp hp (h2.rep _))⟩)
    | _ => exact f.elim
  | tup h1 h2 => cases h' with
    | int j =>
      obtain ⟨f1, f2, f3, f4⟩ := f
      refine .inr ⟨_, _, _, rfl, rfl, h1.sq, fun q => ?_, f2.1, f2.2, by rw [← h2.length]; exact f3, fun p hp => k _ _ _ _ f4 (.newF ok hp) (.of (res_tup ok hp (h2.rep _)))⟩
      subst q; cases h2; exact f1 rfl
    | _ => exact f.elim
  | _ => exact f.elim
def DivOk (i j : Int) : Prop := CDivN i j ∨ CDivW i j
def fDiv (d e : D) (R : S → Prop) : Prop := match d, e with
  | .int i, .int j => DivOk i j ∧ R (.d (.int (i.fdiv j)))
  | _, _ => False
def rDivA : R2 := fun x y H Q => (rI CDivN fun i j => .int (i.fdiv j)) x y H Q ∨ (rI CDivW fun i j => .int (i / j)) x y H Q
theorem or_div {X : Cx} : OpR X (binaryOp .FloorDiv) rDivA := op_fdivN.or op_fdivW
theorem od_div : OpD K rDivA fDiv := by
  intro G W ρ σ H d e x y R Q ok h h' f k
  cases h with
  | int i => cases h' with
    | int j =>
      rcases f with ⟨c | c, f⟩
      · exact .inl ⟨_, _, rfl, rfl, c, k _ _ _ _ f (.refl ok) (.of (.int _))⟩
      · refine .inr ⟨_, _, rfl, rfl, c, k _ _ _ _ f (.refl ok) (.of ?_)⟩
        rw [Int.fdiv_eq_ediv_of_nonneg _ (Int.le_of_lt c.1)]
        exact .int _
    | _ => exact f.elim
  | _ => exact f.elim
def fMod (d e : D) (R : S → Prop) : Prop := match d, e with
  | .int i, .int j => j ≠ 0 ∧ R (.d (.int (i.fmod j)))
  | _, _ => False
theorem od_mod : OpD K (rI (fun _ j => j ≠ 0) fun i j => .int (i.fmod j)) fMod := by
  intro G W ρ σ H d e x y R Q ok h h' f k
  cases h with
  | int i => cases h' with
    | int j => exact ⟨_, _, rfl, rfl, f.1, k _ _ _ _ f.2 (.refl ok) (.of (.int _))⟩
    | _ => exact f.elim
  | _ => exact f.elim
def fPow (d e : D) (R : S → Prop) : Prop := match d, e with
  | .int i, .int j => CPow i j ∧ R (.d (.int (i ^ j.toNat)))
  | _, _ => False
theorem od_pow : OpD K (rI CPow fun i j => .int (i ^ j.toNat)) fPow := by
  intro G W ρ σ H d e x y R Q ok h h' f k
  cases h with
  | int i => cases h' with
    | int j => exact ⟨_, _, rfl, rfl, f.1, k _ _ _ _ f.2 (.refl ok) (.of (.int _))⟩
    | _ => exact f.elim
  | _ => exact f.elim
/-! ### in -/
def D.items : D → Option (List D)
  | .tup ds => some ds
  | .lst ds => some ds
  | .rls ds => some ds
  | _ => none
theorem Dn.seq {W : Wd} {H : Hp} {d : D} {x : V} {ds : List D} (h : Dn K W H d x) (e : d.items = some ds) : ∃ p vs, x = .ref p ∧ (SqL K H p vs ∨ SqT K H p vs) ∧ DnA K W H ds vs := by
  cases h <;> first | (cases e; done) | skip
  · cases e; exact ⟨_, _, rfl, .inr (SeqT.sq ‹_›), ‹_›⟩
  · cases e; exact ⟨_, _, rfl, .inl (SqL.of ‹_›), ‹_›⟩
  · cases e; exact ⟨_, _, rfl, .inl (SeqL.sq ‹_›), ‹_›⟩
/-- x in a list or tuple of flat things -/
def fIn (d e : D) (R : S → Prop) : Prop := ∃ ds, e.items = some ds ∧ d.scl = true ∧ ds.all D.scl = true ∧ R (.d (.bl (ds.any fun z => D.eqb z d)))
def fNin (d e : D) (R : S → Prop) : Prop := ∃ ds, e.items = some ds ∧ d.scl = true ∧ ds.all D.scl = true ∧ R (.d (.bl (!ds.any fun z => D.eqb z d)))
theorem Dn.flat {W : Wd} {H : Hp} {d : D} {x : V} (h : Dn K W H d x) (e : d.scl = true) : flatV x = true := by
  cases h <;> first | rfl | cases e
theorem DnA.flat {W : Wd} {H : Hp} : ∀ {d : List D} {x : List V}, DnA K W H d x → d.all D.scl = true → x.all flatV = true
  | _, _, .nil, _ => rfl
  | _, _, .cons h1 h2, e => by
    rw [List.all_cons, Bool.and_eq_true] at e ⊢
    exact ⟨h1.flat e.1, h2.flat e.2⟩
theorem Dn.eqV {W : Wd} {H : Hp} {d e : D} {x y : V} (h : Dn K W H d x) (g : Dn K W H e y) (o : d.scl = true) (q : e.scl = true) : eqV x y = D.eqb d e := by
  cases h <;> cases g <;> first | (cases o; done) | (cases q; done) | (simp [D.eqb, D.py, PyData.eqv, L2.eqV]; done)
theorem DnA.inV {W : Wd} {H : Hp} {d : D} {x : V} (h : Dn K W H d x) (o : d.scl = true) : ∀ {ds : List D} {xs : List V}, DnA K W H ds xs → ds.all D.scl = true → inV x xs = ds.any fun z => D.eqb z d
  | _, _, .nil, _ => rfl
  | _, _, .cons h1 h2, e => by
    rw [List.all_cons, Bool.and_eq_true] at e
    have ih := DnA.inV h o h2 e.2
    unfold L2.inV at ih ⊢
    rw [List.any_cons, List.any_cons, h1.eqV h e.1 o, ih]
theorem od_in : OpD K (rIn K false) fIn := by
  intro G W ρ σ H d e x y R Q ok h h' ⟨ds, f1, f2, f3, f4⟩ k
  obtain ⟨p, vs, rfl, s, a⟩ := h'.seq f1
  refine ⟨p, vs, rfl, s, h.flat f2, a.flat f3, ?_⟩
  simp only [if_neg Bool.false_ne_true]
  rw [DnA.inV h f2 a f3]
  exact k _ _ _ _ f4 (.refl ok) (.of (.bl _))
theorem od_nin : OpD K (rIn K true) fNin := by
  intro G W ρ σ H d e x y R Q ok h h' ⟨ds, f1, f2, f3, f4⟩ k
  obtain ⟨p, vs, rfl, s, a⟩ := h'.seq f1
  refine ⟨p, vs, rfl, s, h.flat f2, a.flat f3, ?_⟩
  simp only [if_true]
  rw [DnA.inV h f2 a f3]
  exact k _ _ _ _ f4 (.refl ok) (.of (.bl _))
/-! ### xs[i], t[i], s[i] -/
def fIx (d e : D) (R : S → Prop) : Prop := match d, e with
  | .str s, .int i => ∃ c, s.length ≤ sizeLine ∧ atI s.cps.toList i = some c ∧ R (.d (.str ⟨#[c]⟩))
  | .jar, .int i => (i = 0 ∨ i = 1 ∨ i = 2) ∧ ∀ n : Int, (i = 1 → -(2 ^ 40) < n ∧ n < 2 ^ 40) → R (.d (.int n))
  | d, .int i => ∃ ds x, d.items = some ds ∧ atI ds i = some x ∧ R (.d x)
  | _, _ => False
theorem DnA.atI {W : Wd} {H : Hp} {ds : List D} {xs : List V} {i : Int} {d : D} (h : DnA K W H ds xs) (e : atI ds i = some d) : ∃ x, L2.atI xs i = some x ∧ Dn K W H d x := by
  unfold L2.atI at e ⊢
  rw [← h.length]
  cases q : ixN ds.length i with
  | none => rw [q] at e; cases e
  | some j =>
    rw [q] at e
    exact h.get e
theorem fix_items {d : D} {i : Int} {R : S → Prop} (f : fIx d (.int i) R) (n : ∀ s, d ≠ .str s) (n' : d ≠ .jar) : ∃ ds x, d.items = some ds ∧ L2.atI ds i = some x ∧ R (.d x) := by
  cases d <;> first | exact f | exact absurd rfl (n _) | exact absurd rfl n'
end
section
variable {X : Cx} {G : Gx} {T : WX} {a b : Expr} {wa wb : WE} {pos : Pos}
theorem od_ix {K : PySem.W.Frag} : OpD K (rIx K) fIx := by
  intro G W ρ σ H d e x y R Q ok h h' f k
  cases h' with
  | int i =>
    by_cases hs : ∃ s, d = .str s
    · obtain ⟨s, rfl⟩ := hs
      cases h
      obtain ⟨c, f1, f2, f3⟩ := f
      exact .inr (.inr ⟨s, i, c, rfl, rfl, f1, f2, k _ _ _ _ f3 (.refl ok) (.of (.str _))⟩)
    · by_cases hj : d = .jar
      · subst hj
        cases h
        rename_i a ja
        obtain ⟨p, q, r, e, b1, b2⟩ := ok.al.j a ja
        obtain ⟨f1, f2⟩ := f
        refine .inl ⟨a, [.int p, .int q, .int r], i, .int (if i = 0 then p else if i = 1 then q else r), rfl, rfl, SqL.of e, ?_, k _ _ _ _ (f2 _ fun e1 => ?_) (.refl ok) (.of (.int _))⟩
        · rcases f1 with rfl | rfl | rfl <;> rfl
        · subst e1; exact ⟨b1, b2⟩
      obtain ⟨ds, z, f1, f2, f3⟩ := fix_items f (fun s q => hs ⟨s, q⟩) hj
      obtain ⟨p, vs, rfl, s, a⟩ := h.seq f1
      obtain ⟨v, e1, e2⟩ := a.atI f2
      have q := k _ _ _ _ f3 (.refl ok) (.of e2)
      rcases s with s | s
      · exact .inl ⟨_, _, _, _, rfl, rfl, s, e1, q⟩
      · exact .inr (.inl ⟨_, _, _, _, rfl, rfl, s, e1, q⟩)
  | _ => exact (by cases d <;> exact f.elim)
theorem de_ix (ha : DE X G T a wa) (hb : DE X G T b wb) (hs : PlainIx b := by intro _ _; rfl) : DE X G T (.Subscript a b pos) (wBin fIx wa wb) :=
  pe_weak (pe_ix ix_seq ha hb hs) fun _ _ _ h => lE_bin od_ix h
end
/-! ### built-ins -/
section
variable {K : PySem.W.Frag}
def fLen (ds : List D) (R : S → Prop) : Prop := match ds with
  | [.str s] => s.length ≤ sizeLine ∧ R (.d (.int s.length))
  | [d] => ∃ es, d.items = some es ∧ R (.d (.int es.length))
  | _ => False
theorem flen_items {d : D} {R : S → Prop} (f : fLen [d] R) (n : ∀ s, d ≠ .str s) : ∃ ds, d.items = some ds ∧ R (.d (.int ds.length)) := by
  cases d <;> first | exact f | exact absurd rfl (n _)
theorem dna1 {W : Wd} {H : Hp} {ds : List D} {xs : List V} (h : DnA K W H ds xs) (e : ds.length = 1) : ∃ d x, ds = [d] ∧ xs = [x] ∧ Dn K W H d x := by
  match ds, e, h with
  | [d], _, .cons h1 .nil => exact ⟨_, _, rfl, rfl, h1⟩
theorem flen1 {ds : List D} {R : S → Prop} (f : fLen ds R) : ds.length = 1 := by
  match ds, f with
  | [d], _ => rfl
  | [], f => exact f.elim
  | a :: _ :: _, f => cases a <;> exact f.elim
theorem cd_len : CaD K (fun xs H Q => ∃ x n, xs = [x] ∧ LenV K x H n ∧ Q (.int n) H) fLen := by
  intro G W ρ σ H ds xs R Q ok h f k
  obtain ⟨d, x, rfl, rfl, h1⟩ := dna1 h (flen1 f)
  by_cases hs : ∃ s, d = .str s
  · obtain ⟨s, rfl⟩ := hs
    cases h1
    exact ⟨_, _, rfl, ⟨f.1, rfl⟩, k _ _ _ _ f.2 (.refl ok) (.of (.int _))⟩
  · obtain ⟨es, e1, e2⟩ := flen_items f fun s q => hs ⟨s, q⟩
    obtain ⟨p, vs, rfl, s, a⟩ := h1.seq e1
    refine ⟨.ref p, es.length, rfl, ?_, k _ _ _ _ e2 (.refl ok) (.of (.int _))⟩
    rcases s with s | s
    · exact .inl ⟨_, s, a.length⟩
    · exact .inr ⟨_, s, a.length⟩
def fTuple (ds : List D) (R : S → Prop) : Prop := match ds with
  | [d] => ∃ es, d.items = some es ∧ R (.d (.tup es))
  | _ => False
theorem cd_tuple : CaD K (fun xs H Q => ∃ p ys, xs = [.ref p] ∧ ((SqL K H p ys ∧ ∀ l, H l = none → Q (.ref l) (upd H l (.tup ys))) ∨ (SqT K H p ys ∧ Q (.ref p) H))) fTuple := by
  intro G W ρ σ H ds xs R Q ok h f k
  match ds, h, f with
  | [d], .cons (x := x) h1 .nil, f =>
    obtain ⟨es, e1, e2⟩ := f
    cases h1 <;> first | (cases e1; done) | skip
    · cases e1
      exact ⟨_, _, rfl, .inr ⟨SeqT.sq ‹_›, k _ _ _ _ e2 (.refl ok) (.of (.tup ‹_› ‹_›))⟩⟩
    · cases e1
      exact ⟨_, _, rfl, .inl ⟨SqL.of ‹_›, fun l hl => k _ _ _ _ e2 (.newF ok hl) (.of (res_tup ok hl ‹_›))⟩⟩
    · cases e1
      exact ⟨_, _, rfl, .inl ⟨SeqL.sq ‹_›, fun l hl => k _ _ _ _ e2 (.newF ok hl) (.of (res_tup ok hl ‹_›))⟩⟩
def fList (ds : List D) (R : S → Prop) : Prop := match ds with
  | [d] => ∃ es, d.items = some es ∧ R (.own es)
  | _ => False
theorem cd_list : CaD K (fun xs H Q => ∃ p ys, xs = [.ref p] ∧ (SqL K H p ys ∨ SqT K H p ys) ∧ ∀ l, H l = none → Q (.ref l) (upd H l (.lst ys))) fList := by
  intro G W ρ σ H ds xs R Q ok h f k
  match ds, h, f with
  | [d], .cons (x := x) h1 .nil, f =>
    obtain ⟨es, e1, e2⟩ := f
    obtain ⟨p, vs, rfl, s, a⟩ := h1.seq e1
    exact ⟨_, _, rfl, s, fun l hl => k _ _ _ _ e2 (.new ok hl) (res_own ok hl hl a)⟩
def fAbs (ds : List D) (R : S → Prop) : Prop := match ds with
  | [.int i] => R (.d (.int (if i < 0 then -i else i)))
  | _ => False
theorem cd_abs : CaD K (fun xs H Q => ∃ i, xs = [.int i] ∧ Q (.int (if i < 0 then -i else i)) H) fAbs := by
  intro G W ρ σ H ds xs R Q ok h f k
  match ds, h, f with
  | [.int i], .cons (.int _) .nil, f => exact ⟨_, rfl, k _ _ _ _ f (.refl ok) (.of (.int _))⟩
def fMax2 (ds : List D) (R : S → Prop) : Prop := match ds with
  | [.int i, .int j] => R (.d (.int (if j > i then j else i)))
  | _ => False
def fMin2 (ds : List D) (R : S → Prop) : Prop := match ds with
  | [.int i, .int j] => R (.d (.int (if j < i then j else i)))
  | _ => False
theorem cd_max2 : CaD K (fun xs H Q => ∃ i j, xs = [.int i, .int j] ∧ Q (.int (if j > i then j else i)) H) fMax2 := by
  intro G W ρ σ H ds xs R Q ok h f k
  match ds, h, f with
  | [.int i, .int j], .cons (.int _) (.cons (.int _) .nil), f => exact ⟨_, _, rfl, k _ _ _ _ f (.refl ok) (.of (.int _))⟩
theorem cd_min2 : CaD K (fun xs H Q => ∃ i j, xs = [.int i, .int j] ∧ Q (.int (if j < i then j else i)) H) fMin2 := by
  intro G W ρ σ H ds xs R Q ok h f k
  match ds, h, f with
  | [.int i, .int j], .cons (.int _) (.cons (.int _) .nil), f => exact ⟨_, _, rfl, k _ _ _ _ f (.refl ok) (.of (.int _))⟩
def fInt (ds : List D) (R : S → Prop) : Prop := match ds with
  | [.int i] => R (.d (.int i))
  | [.bl k] => R (.d (.int (if k then 1 else 0)))
  | _ => False
theorem cd_int : CaD K (fun xs H Q => (∃ i, xs = [.int i] ∧ Q (.int i) H) ∨ ∃ k, xs = [.bl k] ∧ Q (.int (if k then 1 else 0)) H) fInt := by
  intro G W ρ σ H ds xs R Q ok h f k
  match ds, h, f with
  | [.int i], .cons (.int _) .nil, f => exact .inl ⟨_, rfl, k _ _ _ _ f (.refl ok) (.of (.int _))⟩
  | [.bl i], .cons (.bl _) .nil, f => exact .inr ⟨_, rfl, k _ _ _ _ f (.refl ok) (.of (.int _))⟩
/-- of a list of ints, of bools -/
def fInts (g : List Int → (S → Prop) → Prop) (ds : List D) (R : S → Prop) : Prop := ∃ ns : List Int, (ds = [.lst (ns.map .int)] ∨ ds = [.rls (ns.map .int)]) ∧ g ns R
theorem DnA.ints1 {W : Wd} {H : Hp} {ds : List D} {xs : List V} {ns : List Int} (h : DnA K W H ds xs) (e : ds = [.lst (ns.map .int)] ∨ ds = [.rls (ns.map .int)]) : ∃ a, xs = [.ref a] ∧ SqL K H a (ns.map V.int) := by
  rcases e with rfl | rfl
  · match h with
    | .cons (.lst h0 h1 h2) .nil => rw [h2.map_int] at h1; exact ⟨_, rfl, SqL.of h1⟩
  · match h with
    | .cons (.rls h1 h2) .nil => rw [h2.map_int] at h1; exact ⟨_, rfl, h1.sq⟩
def fSum := fInts fun ns R => R (.d (.int ns.sum))
theorem cd_sum : CaD K (rSum K) fSum := by
  intro G W ρ σ H ds xs R Q ok h ⟨ns, e, f⟩ k
  obtain ⟨a, rfl, s⟩ := h.ints1 e
  exact ⟨a, ns, rfl, s, k _ _ _ _ f (.refl ok) (.of (.int _))⟩
def fMaxL := fInts fun ns R => 0 < ns.length ∧ ∀ m, m ∈ ns → (∀ y, y ∈ ns → y ≤ m) → R (.d (.int m))
def fMinL := fInts fun ns R => 0 < ns.length ∧ ∀ m, m ∈ ns → (∀ y, y ∈ ns → m ≤ y) → R (.d (.int m))
theorem cd_maxL : CaD K (L2.rMax K) fMaxL := by
  intro G W ρ σ H ds xs R Q ok h ⟨ns, e, f1, f⟩ k
  obtain ⟨a, rfl, s⟩ := h.ints1 e
  exact ⟨a, ns, rfl, s, f1, fun m h1 h2 => k _ _ _ _ (f m h1 h2) (.refl ok) (.of (.int _))⟩
theorem cd_minL : CaD K (L2.rMin K) fMinL := by
  intro G W ρ σ H ds xs R Q ok h ⟨ns, e, f1, f⟩ k
  obtain ⟨a, rfl, s⟩ := h.ints1 e
  exact ⟨a, ns, rfl, s, f1, fun m h1 h2 => k _ _ _ _ (f m h1 h2) (.refl ok) (.of (.int _))⟩
def fSorted := fInts fun ns R => ∀ ns' : List Int, ns'.Perm ns → ns'.Pairwise (· ≤ ·) → R (.own (ns'.map .int))
theorem cd_sorted : CaD K (rSortedI K) fSorted := by
  intro G W ρ σ H ds xs R Q ok h ⟨ns, e, f⟩ k
  obtain ⟨a, rfl, s⟩ := h.ints1 e
  exact ⟨a, ns, rfl, s, fun ns' p h1 h2 hp => k _ _ _ _ (f ns' h1 h2) (.new ok hp) (res_own ok hp hp (.of_int ns'))⟩
def fAll (ds : List D) (R : S → Prop) : Prop := ∃ bs : List Bool, ds = [.lst (bs.map .bl)] ∧ R (.d (.bl (bs.all id)))
def fAny (ds : List D) (R : S → Prop) : Prop := ∃ bs : List Bool, ds = [.lst (bs.map .bl)] ∧ R (.d (.bl (bs.any id)))
theorem DnA.bls1 {W : Wd} {H : Hp} {xs : List V} {ns : List Bool} (h : DnA K W H [.lst (ns.map .bl)] xs) : ∃ a, xs = [.ref a] ∧ SqL K H a (ns.map V.bl) := by
  match h with
  | .cons (.lst h0 h1 h2) .nil => rw [h2.map_bl] at h1; exact ⟨_, rfl, SqL.of h1⟩
theorem cd_all : CaD K (rAll K) fAll := by
  intro G W ρ σ H ds xs R Q ok h ⟨ns, e, f⟩ k
  subst e
  obtain ⟨a, rfl, s⟩ := h.bls1
  exact ⟨a, ns, rfl, s, k _ _ _ _ f (.refl ok) (.of (.bl _))⟩
theorem cd_any : CaD K (rAny K) fAny := by
  intro G W ρ σ H ds xs R Q ok h ⟨ns, e, f⟩ k
  subst e
  obtain ⟨a, rfl, s⟩ := h.bls1
  exact ⟨a, ns, rfl, s, k _ _ _ _ f (.refl ok) (.of (.bl _))⟩
/-! ### repr -/
def rRepr (K : PySem.W.Frag) : List V → Hp → VK → Prop := fun xs H Q => ∃ x d, xs = [x] ∧ Dp K H x d ∧ d.showable = true ∧ d.hasDict = false ∧ d.depth ≤ 60 ∧ d.shown.length ≤ sizeLine ∧ Q (.str d.shown) H
theorem cr_repr {X : Cx} (hg : X.A.guards = some []) (hu : X.A.units + 64 < cLine) : CallR X (.builtin "repr") (rRepr X.K) := by
  intro pins s σ H xs us Q I r ⟨x, d, e, hp, h1, h2, h3, h4, q⟩
  subst e
  obtain ⟨u, rfl, ru⟩ := vals1 r
  obtain ⟨as, rd⟩ := Dp.reads I d x u hp ru
  have fin : ∀ (h' : Heap) (t : Tok) (tk : Nat), (∀ b o, s.heap.get? b = some o → h'.get? b = some o) → EP X pins σ Q (.str d.shown t) { s with heap := h', toks := tk } := fun h' t tk k => ⟨.str d.shown, H, I.kept k, ⟨t, rfl⟩, q⟩
  cases hp with
  | non => obtain rfl := ru; exact PySem.P.repr_of_none (fin s.heap _ _ fun _ _ e => e)
  | bl b => obtain rfl := ru; exact PySem.P.repr_of_bool (fin s.heap _ _ fun _ _ e => e)
  | int i =>
    obtain ⟨t, rfl⟩ := ru
    refine PySem.P.repr_of_int (by simpa [PyData.showable] using h1) (fin s.heap _ _ fun _ _ e => e)
  | str z => obtain ⟨t, rfl⟩ := ru; exact PySem.P.repr_of_str (fin s.heap _ _ fun _ _ e => e) h4
  | lst h h' => obtain rfl := ru; exact PySem.repr_of_reads' rd h1 (PySem.PyData.noDict_hsm h2) hg (by omega) (fun _ _ e => e) (fun h' u tk k => fin h' u tk k) h4
  | tup h h' => obtain rfl := ru; exact PySem.repr_of_reads' rd h1 (PySem.PyData.noDict_hsm h2) hg (by omega) (fun _ _ e => e) (fun h' u tk k => fin h' u tk k) h4
mutual
theorem py_noDict : ∀ d : D, d.py.hasDict = false
  | .non => rfl | .bl _ => rfl | .int _ => rfl | .str _ => rfl | .jar => rfl | .v _ => rfl | .dic _ => rfl | .ins _ _ => rfl
  | .tup ds => pys_noDict ds
  | .lst ds => pys_noDict ds
  | .rls ds => pys_noDict ds
theorem pys_noDict : ∀ ds : List D, PyData.hasDictAll (D.pys ds) = false
  | [] => rfl
  | d :: ds => by
    show (PyData.hasDict d.py || PyData.hasDictAll (D.pys ds)) = false
    rw [py_noDict d, pys_noDict ds]; rfl
end
def D.okRepr (d : D) : Prop := d.isPy = true ∧ d.py.showable = true ∧ d.py.depth ≤ 60 ∧ d.py.shown.length ≤ sizeLine
def fRepr (ds : List D) (R : S → Prop) : Prop := match ds with
  | [d] => d.okRepr ∧ R (.d (.str d.py.shown))
  | _ => False
theorem cd_repr : CaD K (rRepr K) fRepr := by
  intro G W ρ σ H ds xs R Q ok h f k
  match ds, h, f with
  | [d], .cons (x := x) h1 .nil, ⟨⟨f1, f2, f3, f4⟩, f⟩ =>
    exact ⟨x, d.py, rfl, h1.dp f1, f2, py_noDict d, f3, f4, k _ _ _ _ f (.refl ok) (.of (.str _))⟩
/-! ### isinstance with a built-in class -/
def D.tyName : D → Option String
  | .non => some "NoneType"
  | .bl _ => some "bool"
  | .int _ => some "int"
  | .str _ => some "str"
  | .tup _ => some "tuple"
  | .lst _ => some "list"
  | .rls _ => some "list"
  | .dic _ => some "dict"
  | _ => none
def fIsi (ds : List D) (R : S → Prop) : Prop := match ds with
  | [d, .v (.ty n)] => ∃ t b, d.tyName = some t ∧ kitB t n = some b ∧ R (.d (.bl b))
  | _ => False
theorem SeqT.ty {W : Wd} {H : Hp} {a : Addr} {xs : List V} (h : SeqT K W H a xs) : TyX K H (.ref a) (.type "tuple") := by
  rcases h with ⟨_, h | ⟨o, h⟩⟩ | ⟨o, its, n, h1, h2, _⟩
  · exact .base (.tup h)
  · exact .fTuple h
  · exact .kTuple h1 h2
theorem SeqL.ty {W : Wd} {H : Hp} {a : Addr} {xs : List V} (h : SeqL K W H a xs) : TyX K H (.ref a) (.type "list") := by
  rcases h with ⟨_, h | ⟨o, h⟩⟩ | ⟨o, its, n, h1, h2, _⟩
  · exact .base (.lst h)
  · exact .base (.frz h)
  · exact .kList h1 h2
theorem Dn.ty {W : Wd} {H : Hp} {d : D} {x : V} {t : String} (h : Dn K W H d x) (e : d.tyName = some t) : TyX K H x (.type t) := by
  cases h <;> first | (cases e; done) | skip
  · cases e; exact .base .non
  · cases e; exact .base (.bl _)
  · cases e; exact .base (.int _)
  · cases e; exact .base (.str _)
  · cases e; exact SeqT.ty ‹_›
  · cases e; exact .base (.lst ‹_›)
  · cases e; exact SeqL.ty ‹_›
  · cases e
    rename_i h _
    rcases h.rd with q | ⟨o, q⟩
    · exact .base (.dK q)
    · exact .fDict q
theorem cd_isi : CaD K (rIsi K) fIsi := by
  intro G W ρ σ H ds xs R Q ok h f k
  match ds, h, f with
  | [d, .v (.ty n)], .cons (x := x) h1 (.cons (.v _) .nil), ⟨t, b, f1, f2, f⟩ =>
    exact ⟨x, .ty n, _, _, b, rfl, .ty n, h1.ty f1, kit_ty f2, k _ _ _ _ f (.refl ok) (.of (.bl _))⟩
end
end DL

/-! DL3: statements, loops, comprehensions. -/
namespace DL
open PySem PySem.Spec L2
section
variable {K : PySem.W.Frag} {G : Gx} {T : WX} {σ : L2.St} {ρ ρ1 : Rho} {W W1 : Wd} {H H1 : Hp}
/-! ### slots are stored -/
theorem Ok.set (ok : Ok K G W ρ σ H) {i : Nat} {d : S} {x : V} (r : Rs K W H d x) (f : d.isOwn = true → ∀ p, x = .ref p → ¬ W.F p ∧ ¬ W.J p ∧ G.H p = none ∧ ¬ Ow ρ σ p) : Ok K G W (ρ.set i (some d)) (σ.set i (some x)) H := by
  have cs : ∀ {j : Nat} {e : S}, (ρ.set i (some d))[j]? = some (some e) → (i = j ∧ d = e ∧ (σ.set i (some x))[j]? = some (some x)) ∨ (i ≠ j ∧ ρ[j]? = some (some e) ∧ (σ.set i (some x))[j]? = σ[j]?) := fun {j e} h => by
    rcases set_get h with ⟨z1, z2⟩ | ⟨z1, z2⟩
    · cases z2; subst z1
      refine .inl ⟨rfl, rfl, ?_⟩
      have hl : i < ρ.length := by
        have := (List.getElem?_eq_some_iff.mp h).1
        rwa [List.length_set] at this
      rw [List.getElem?_set_self (by rw [ok.len]; exact hl)]
    · exact .inr ⟨z1, z2, List.getElem?_set_ne z1⟩
  have ow : ∀ {j : Nat} {e : S} {a : Addr}, ρ[j]? = some (some e) → e.isOwn = true → σ[j]? = some (some (.ref a)) → Ow ρ σ a := fun h1 h2 h3 => ⟨_, _, h1, h2, h3⟩
  refine ⟨by rw [List.length_set, List.length_set, ok.len], fun j e h => ?_, fun a ⟨j, e, h1, h2, h3⟩ => ?_, fun j l e e' a h1 h2 o1 o2 s1 s2 => ?_, ok.al, ok.en⟩
  · rcases cs h with ⟨_, q, s⟩ | ⟨_, q, s⟩
    · subst q; exact ⟨x, s, r⟩
    · rw [s]; exact ok.val j e q
  · rcases cs h1 with ⟨_, q, s⟩ | ⟨_, q, s⟩
    · subst q; rw [s] at h3; cases h3
      obtain ⟨a1, a2, a3, _⟩ := f h2 a rfl
      exact ⟨a1, a2, a3⟩
    · rw [s] at h3; exact ok.frs a (ow q h2 h3)
  · rcases cs h1 with ⟨z1, q1, t1⟩ | ⟨z1, q1, t1⟩
    · subst q1; rw [t1] at s1; cases s1
      rcases cs h2 with ⟨z2, q2, t2⟩ | ⟨z2, q2, t2⟩
      · exact z1.symm.trans z2
      · rw [t2] at s2
        exact absurd (ow q2 o2 s2) (f o1 a rfl).2.2.2
    · rw [t1] at s1
      rcases cs h2 with ⟨z2, q2, t2⟩ | ⟨z2, q2, t2⟩
      · subst q2; rw [t2] at s2; cases s2
        exact absurd (ow q1 o1 s1) (f o2 a rfl).2.2.2
      · rw [t2] at s2
        exact ok.inj j l e e' a q1 q2 o1 o2 s1 s2
/-- a value that has come since ok0, the slots' values as they were -/
theorem Go.fr (ok0 : Ok K G W ρ σ H) (g : Go K G σ ρ W H ρ1 W1 H1) {d : S} {x : V} (r : Res K H W1 H1 d x) : d.isOwn = true → ∀ p, x = .ref p → ¬ W1.F p ∧ ¬ W1.J p ∧ G.H p = none ∧ ¬ Ow ρ1 σ p := fun o p e => by
  obtain ⟨a, b, c⟩ := r.fr o p e
  refine ⟨a, b, ok0.upG c, fun q => ?_⟩
  obtain ⟨u, hu⟩ := ok0.here (g.sub p q)
  rw [c] at hu
  cases hu
theorem Go.set (ok0 : Ok K G W ρ σ H) (g : Go K G σ ρ W H ρ1 W1 H1) {d : S} {x : V} (r : Res K H W1 H1 d x) (i : Nat) : Ok K G W1 (ρ1.set i (some d)) (σ.set i (some x)) H1 :=
  g.ok.set r.rs (g.fr ok0 r)
/-- a value kept over a further evaluation -/
theorem Res.go {ρ2 : Rho} {W2 : Wd} {H2 : Hp} (ok0 : Ok K G W ρ σ H) (g : Go K G σ ρ W H ρ1 W1 H1) (g2 : Go K G σ ρ1 W1 H1 ρ2 W2 H2) {d : S} {x : V} (r : Res K H W1 H1 d x) : Res K H W2 H2 d x := by
  have nO : d.isOwn = true → ∀ p, x = .ref p → H2 p = H1 p ∧ ¬ W2.F p ∧ ¬ W2.J p := fun o p e => by
    obtain ⟨a, b, c, n⟩ := g.fr ok0 r o p e
    obtain ⟨q, u, e1, e2⟩ := r.rs.ow o
    rw [e] at e1; cases e1
    refine ⟨by rw [e2]; exact g2.stp.st p u e2 b n, fun z => ?_, fun z => ?_⟩
    · rcases g2.stp.nF p z with y | y | y
      · exact a y
      · rw [e2] at y; cases y
      · exact n y
    · rcases g2.stp.nJ p z with y | y
      · exact b y
      · rw [e2] at y; cases y
  exact ⟨r.rs.le g2.stp.le fun o p e => (nO o p e).1, fun o p e => ⟨(nO o p e).2.1, (nO o p e).2.2, (r.fr o p e).2.2⟩⟩
end
section
variable {X : Cx} {G : Gx} {T : WX} {a b c e : Expr} {w wa wb wc : WE} {t : WT} {u v : WS} {pos p : Pos} {st : Stmt} {rest : List Stmt}
/-! ### blocks and small statements -/
def wNext : WS := fun E ρ => E.nx ρ
def wSeq (u v : WS) : WS := fun E ρ => u { E with nx := v E } ρ
theorem dss_nil : DSs X G T [] wNext := pss_weak pss_nil fun D σ H ⟨W, ρ, E, ok, h, hn, _⟩ => hn ρ W σ H h ok (.refl _ _)
theorem lS_on {K : PySem.W.Frag} {σ : L2.St} {ρ1 : Rho} {W W1 : Wd} {H H1 : Hp} {D : Ends} {E : DEnds} (ok1 : Ok K G W1 ρ1 σ H1) (l : Le W H W1 H1) (h : u E ρ1) (hn : lN K G E.nx D.nx W H) (hr : lR K G E.rt D.rt W H) (hb : lN K G E.bk D.bk W H) (hc : lN K G E.ct D.ct W H) (hx : lX K G T E.ex W H) :
    lS K G T u D σ H1 := ⟨W1, ρ1, E, ok1, h, hn.le l, hr.le l, hb.le l, hc.le l, hx.le l⟩
theorem dss_cons (h1 : DS X G T st u) (h2 : DSs X G T rest v) : DSs X G T (st :: rest) (wSeq u v) :=
  pss_weak (pss_cons h1 h2) fun D σ H ⟨W, ρ, E, ok, h, hn, hr, hb, hc, hx⟩ => ⟨W, ρ, { E with nx := v E }, ok, h, fun ρ' W' σ' H' h' ok' l => lS_on ok' l h' hn hr hb hc hx, hr, hb, hc, hx⟩
theorem dss_one (h1 : DS X G T st u) : DSs X G T [st] u := pss_one h1
def wBrk : WS := fun E ρ => E.bk ρ
def wCnt : WS := fun E ρ => E.ct ρ
theorem ds_pass : DS X G T (.Pass pos) wNext := ps_weak ps_pass fun D σ H ⟨W, ρ, E, ok, h, hn, _⟩ => hn ρ W σ H h ok (.refl _ _)
theorem ds_break : DS X G T (.Break pos) wBrk := ps_weak ps_break fun D σ H ⟨W, ρ, E, ok, h, _, _, hb, _⟩ => hb ρ W σ H h ok (.refl _ _)
theorem ds_continue : DS X G T (.Continue pos) wCnt := ps_weak ps_continue fun D σ H ⟨W, ρ, E, ok, h, _, _, _, hc, _⟩ => hc ρ W σ H h ok (.refl _ _)
def wDrop (w : WE) : WS := fun E ρ => w E.ex ρ fun _ ρ' => E.nx ρ'
theorem ds_expr (he : DE X G T e w) (hs : swapsWith e none pos.line X.env = pure false := by rfl) : DS X G T (.Expr e pos) (wDrop w) :=
  ps_weak (ps_expr he hs) fun D σ H ⟨W, ρ, E, ok, h, hn, hr, hb, hc, hx⟩ => ⟨W, ρ, _, E.ex, ok, h, fun d ρ' W' x H' h' g _ => hn ρ' W' σ H' h' g.ok g.stp.le, hx.z σ ρ⟩
def wRet (w : WE) : WS := fun E ρ => w E.ex ρ fun d _ => E.rt d
theorem ds_ret (he : DE X G T e w) : DS X G T (.Return (some e) pos) (wRet w) :=
  ps_weak (ps_ret he) fun D σ H ⟨W, ρ, E, ok, h, hn, hr, hb, hc, hx⟩ => ⟨W, ρ, _, E.ex, ok, h, fun d ρ' W' x H' h' g r => hr d ρ' W' σ x H' h' g.ok g.stp.le (r.up ok.en.up), hx.z σ ρ⟩
def wRetN : WS := fun E _ => E.rt (.d .non)
theorem ds_retN : DS X G T (.Return none pos) wRetN :=
  ps_weak ps_retN fun D σ H ⟨W, ρ, E, ok, h, hn, hr, hb, hc, hx⟩ => hr _ ρ W σ .non H h ok (.refl _ _) (.of .non)
def wIf (t : WT) (u v : WS) : WS := fun E ρ => t E.ex ρ fun c ρ1 => if c = true then u E ρ1 else v E ρ1
theorem ds_if {c : Expr} {a b : List Stmt} (hc : DT X G T c t) (ha : DSs X G T a u) (hb : DSs X G T b v) : DS X G T (.If c a b pos) (wIf t u v) :=
  ps_weak (ps_if hc ha hb) fun D σ H ⟨W, ρ, E, ok, h, hn, hr, hb, hc, hx⟩ => lT_then ok h (hx.z σ ρ) fun c ρ1 W1 H1 hh g => by
    cases c with
    | true => exact lS_on g.ok g.stp.le hh hn hr hb hc hx
    | false => exact lS_on g.ok g.stp.le hh hn hr hb hc hx
def wSet (i : Nat) (w : WE) : WS := fun E ρ => w E.ex ρ fun d ρ' => E.nx (ρ'.set i (some d))
theorem lS_set {K : PySem.W.Frag} {σ : L2.St} {H : Hp} {D : Ends} {i : Nat} {te : TE} (ht : ∀ Q, lE K G T w σ H Q → te σ H Q) (h : lS K G T (wSet i w) D σ H) : tAsg te (gName i) D σ H := by
  obtain ⟨W, ρ, E, ok, h, hn, hr, hb, hc, hx⟩ := h
  exact ht _ ⟨W, ρ, _, E.ex, ok, h, fun d ρ' W' x H' h' g r => hn _ W' _ H' h' (g.set ok r i) g.stp.le, hx.z σ ρ⟩
theorem ds_set {i : Nat} {x : Str} {pos' : Pos} (hN : X.N.Nodup) (he : DE X G T e w) (hi : X.N[i]? = some x := by rfl) (hx : Loc X.env.scope x := by first | exact .inl rfl | exact .inr rfl) (hs : swapsWith e (some (.Name x pos')) pos.line X.env = pure false := by rfl) (hf : X.fn x = true ∨ X.env.scope.names.lookup x = some .local := by first | exact .inr rfl | exact .inl rfl | assumption) :
    DS X G T (.Assign [.Name x pos'] e pos) (wSet i w) :=
  ps_weak (ps_set hN hi hx he hs hf) fun D σ H h => lS_set (fun _ q => q) h
/-- a, b = x, y -/
def wPar (i j : Nat) (wa wb : WE) : WS := fun E ρ => wa E.ex ρ fun x ρ1 => wb E.ex ρ1 fun y ρ2 => E.nx ((ρ2.set i (some x)).set j (some y))
theorem lS_par {K : PySem.W.Frag} {σ : L2.St} {H : Hp} {D : Ends} {i j : Nat} (h : lS K G T (wPar i j wa wb) D σ H) : lE K G T wa σ H fun x H1 => lE K G T wb σ H1 fun y H2 => D.nx ((σ.set i (some x)).set j (some y)) H2 := by
  obtain ⟨W, ρ, E, ok, h, hn, hr, hb, hc, hx⟩ := h
  refine ⟨W, ρ, _, E.ex, ok, h, fun d ρ1 W1 x H1 h1 g r => ?_, hx.z σ ρ⟩
  refine ⟨W1, ρ1, _, E.ex, g.ok, h1, fun e ρ2 W2 y H2 h2 g2 r2 => ?_, (hx.z σ ρ).go g⟩
  have r' := r.go ok g g2
  have g12 := g.trans g2
  have ok1 := g12.set ok r' i
  refine hn _ W2 _ H2 h2 (ok1.set r2.rs fun o p ep => ?_) g12.stp.le
  obtain ⟨a, b, c, n⟩ := g2.fr g.ok r2 o p ep
  refine ⟨a, b, c, fun ⟨l, f, f1, f2, f3⟩ => ?_⟩
  rcases set_get f1 with ⟨z1, z2⟩ | ⟨z1, z2⟩
  · cases z2; subst z1
    have hl : i < (σ.set i (some x)).length := (List.getElem?_eq_some_iff.mp f3).1
    rw [List.length_set] at hl
    rw [List.getElem?_set_self hl] at f3
    cases f3
    obtain ⟨q, u, e1, e2⟩ := r.rs.ow f2
    cases e1
    have := (r2.fr o p ep).2.2
    rw [e2] at this; cases this
  · rw [List.getElem?_set_ne z1] at f3
    exact n ⟨l, f, z2, f2, f3⟩
theorem ds_par {i j : Nat} {x y : Str} {px py pt : Pos} {kt k2 pt2} (hN : X.N.Nodup) (ha : DE X G T a wa) (hb : DE X G T b wb) (hc : X.calm = true := by rfl) (hi : X.N[i]? = some x := by rfl) (hj : X.N[j]? = some y := by rfl) (hij : i ≠ j := by decide)
    (hx : X.env.scope.names.lookup x = some .local := by rfl) (hy : X.env.scope.names.lookup y = some .local := by rfl)
    (hw : swappedStores [.Tuple [.Name x px, .Name y py] kt pt] (.Tuple [a, b] k2 pt2) X.env = pure (some [x, y]) := by rfl)
    (hs : swapsWithSole [.Tuple [.Name x px, .Name y py] kt pt] (.Tuple [a, b] k2 pt2) pos.line X.env = pure false := by rfl)
    (hsa : starEach (a :: [b]) X.env = (false, eval a X.env) :: starEach [b] X.env := by rfl) (hsb : starEach [b] X.env = (false, eval b X.env) :: starEach [] X.env := by rfl) :
    DS X G T (.Assign [.Tuple [.Name x px, .Name y py] kt pt] (.Tuple [a, b] k2 pt2) pos) (wPar i j wa wb) :=
  ps_weak (L2.ps_par (ta := tCons (lE X.K G T wa) (tCons (lE X.K G T wb) tNil)) hc hN hi hj hij hx hy (pa_cons ha (pa_cons hb pa_nil hsb) hsa) hw hs) fun D σ H h => by
    have q := lS_par h
    obtain ⟨W, ρ, R, Z, ok, h, h1, hZ⟩ := q
    refine ⟨W, ρ, R, Z, ok, h, fun d ρ1 W1 x H1 hr g r => ?_, hZ⟩
    obtain ⟨W', ρ', R', Z', ok', h', h1', hZ'⟩ := h1 d ρ1 W1 x H1 hr g r
    exact ⟨W', ρ', R', Z', ok', h', fun d ρ1 W1 y H1 hr g r => ⟨x, y, rfl, h1' d ρ1 W1 y H1 hr g r⟩, hZ'⟩
/-! ### while -/
def wWhileN (t : WT) (b : WS) (E : DEnds) : Nat → Rho → Prop
  | 0 => fun _ => False
  | n + 1 => fun ρ => t E.ex ρ fun c ρ1 => if c = true then b { E with nx := wWhileN t b E n, ct := wWhileN t b E n, bk := E.nx } ρ1 else E.nx ρ1
def wWhile (t : WT) (b : WS) : WS := fun E ρ => ∃ n, wWhileN t b E n ρ
theorem ds_while {c : Expr} {body : List Stmt} (hp : PassesOwn (model X.prog X.w) X.A X.env X.xe) (hc : DT X G T c t) (hb : DSs X G T body u) : DS X G T (.While c body [] pos) (wWhile t u) :=
  ps_weak (ps_while hp hc hb) fun D σ H ⟨W, ρ, E, ok, ⟨n, h⟩, hn, hr, hb, hc, hx⟩ => by
    refine ⟨fun m σ' H' => ∃ W' ρ', Ok X.K G W' ρ' σ' H' ∧ wWhileN t u E m ρ' ∧ Le W H W' H', ⟨n, W, ρ, ok, h, .refl _ _⟩, fun m σ' H' ⟨W', ρ', ok', h', l⟩ => ?_⟩
    cases m with
    | zero => exact h'.elim
    | succ m =>
      refine lT_then ok' h' ((hx.le l).z σ' ρ') fun c ρ1 W1 H1 hh g => ?_
      have l1 := l.trans g.stp.le
      cases c with
      | false => exact hn ρ1 W1 σ' H1 hh g.ok l1
      | true =>
        refine ⟨fun σ2 H2 => ∃ W' ρ', Ok X.K G W' ρ' σ2 H2 ∧ wWhileN t u E m ρ' ∧ Le W H W' H2, fun σ2 H2 q => ⟨m, Nat.lt_succ_self m, q⟩, ?_⟩
        have hN : lN X.K G (wWhileN t u E m) (fun σ2 H2 => ∃ W' ρ', Ok X.K G W' ρ' σ2 H2 ∧ wWhileN t u E m ρ' ∧ Le W H W' H2) W H := fun ρ2 W2 σ2 H2 q o l => ⟨W2, ρ2, o, q, l⟩
        exact lS_on (E := { E with nx := wWhileN t u E m, ct := wWhileN t u E m, bk := E.nx }) g.ok l1 hh hN hr hn hN hx
/-! ### targets that are names -/
def stores : L2.St → List Nat → List V → L2.St
  | σ, i :: is, x :: xs => stores (σ.set i (some x)) is xs
  | σ, _, _ => σ
def storesR : Rho → List (Nat × D) → Rho
  | ρ, (i, d) :: l => storesR (ρ.set i (some (.d d))) l
  | ρ, [] => ρ
theorem Ok.stores {K : PySem.W.Frag} {W : Wd} {H : Hp} : ∀ {l : List (Nat × D)} {ρ : Rho} {σ : L2.St} {xs : List V}, Ok K G W ρ σ H → DnA K W H (l.map (·.2)) xs → Ok K G W (storesR ρ l) (stores σ (l.map (·.1)) xs) H
  | [], _, _, _, ok, _ => ok
  | (i, d) :: l, ρ, σ, _, ok, .cons h1 h2 => Ok.stores (l := l) (ok.set (i := i) (d := .d d) h1 fun o => by cases o) h2
/-- the target tg of slots alone -/
def TgtL (X : Cx) (tg : Expr) (f : D → (List (Nat × D) → Prop) → Prop) (g : TG) : Prop := PG X tg g ∧
  ∀ (W : Wd) (H : Hp) (x : V) (d : D) (σ : L2.St) (Q : L2.St → Hp → Prop) (N : List (Nat × D) → Prop), Dn X.K W H d x → f d N → (∀ l xs, N l → DnA X.K W H (l.map (·.2)) xs → Q (stores σ (l.map (·.1)) xs) H) → g x σ H Q
def fName (i : Nat) (d : D) (N : List (Nat × D) → Prop) : Prop := N [(i, d)]
theorem tg_name {i : Nat} {x : Str} (hN : X.N.Nodup) (hi : X.N[i]? = some x := by rfl) (hx : Loc X.env.scope x := by first | exact .inl rfl | exact .inr rfl) (hf : X.fn x = true ∨ X.env.scope.names.lookup x = some .local := by first | exact .inr rfl | exact .inl rfl | assumption) :
    TgtL X (.Name x pos) (fName i) (gName i) :=
  ⟨pg_name hN hi hx hf, fun W H x d σ Q N h f k => k _ [x] f (.cons h .nil)⟩
/-- (x, y, ..): names -/
def fTupN (is : List Nat) (d : D) (N : List (Nat × D) → Prop) : Prop := match d with
  | .tup ds => ds.length = is.length ∧ N (is.zip ds)
  | _ => False
def gNames : List Nat → TGs
  | [] => gNil
  | i :: is => gCons (gName i) (gNames is)
theorem gNames_ok {K : PySem.W.Frag} {W : Wd} {H : Hp} : ∀ {is : List Nat} {ds : List D} {xs : List V} {σ : L2.St} {Q : L2.St → Hp → Prop}, DnA K W H ds xs → ds.length = is.length → Q (stores σ is xs) H → gNames is xs σ H Q
  | [], [], _, _, _, .nil, _, q => ⟨rfl, q⟩
  | i :: is, d :: ds, _, _, _, .cons h1 h2, e, q => ⟨_, _, rfl, gNames_ok h2 (by simpa using e) q⟩
  | [], _ :: _, _, _, _, _, e, _ => by simp at e
  | _ :: _, [], _, _, _, _, e, _ => by simp at e
theorem zip_maps : ∀ {is : List Nat} {ds : List D}, ds.length = is.length → (is.zip ds).map (·.1) = is ∧ (is.zip ds).map (·.2) = ds
  | [], [], _ => ⟨rfl, rfl⟩
  | i :: is, d :: ds, e => by
    obtain ⟨a, b⟩ := zip_maps (is := is) (ds := ds) (by simpa using e)
    exact ⟨by simp [a], by simp [b]⟩
  | [], _ :: _, e => by simp at e
  | _ :: _, [], e => by simp at e
theorem pgs_nm {i : Nat} {x : Str} {is : List Nat} {es : List Expr} (hN : X.N.Nodup) (h2 : PGs X es (gNames is)) (hi : X.N[i]? = some x := by rfl) (hx : Loc X.env.scope x := by first | exact .inl rfl | exact .inr rfl) (hf : X.fn x = true ∨ X.env.scope.names.lookup x = some .local := by first | exact .inr rfl | exact .inl rfl | assumption)
    (hs : (assignEach (.Name x pos :: es) X.env).map (·.2) = assign (.Name x pos) X.env :: (assignEach es X.env).map (·.2) := by rfl) : PGs X (.Name x pos :: es) (gNames (i :: is)) := pgs_cons (pg_name hN hi hx hf) h2 hs
theorem pgs_nm0 : PGs X [] (gNames []) := pgs_nil
theorem tg_tup {es : List Expr} {k : Nat} {is : List Nat} (h : PGs X es (gNames is)) (hc : X.calm = true := by rfl) (hn : (assignEach es X.env).length = is.length := by rfl) (hst : (assignEach es X.env).findIdx? (·.1) = none := by rfl) : TgtL X (.Tuple es k pos) (fTupN is) (gTup X.K is.length (gNames is)) :=
  ⟨pg_tup hc h hn hst, fun W H x d σ Q N hd f q => by
    cases hd <;> first | exact f.elim | skip
    rename_i h1 h2
    obtain ⟨e1, e2⟩ := zip_maps f.1
    refine ⟨_, _, rfl, SeqT.sq h1, by rw [← h2.length]; exact f.1, gNames_ok h2 f.1 ?_⟩
    have := q _ _ f.2 (by rw [e2]; exact h2)
    rwa [e1] at this⟩
/-- target = value, the target of names -/
def wAsgN (f : D → (List (Nat × D) → Prop) → Prop) (w : WE) : WS := fun E ρ => w E.ex ρ fun d ρ' => f d.frz fun l => E.nx (storesR ρ' l)
theorem ds_asgN {tg : Expr} {f : D → (List (Nat × D) → Prop) → Prop} {g : TG} (he : DE X G T e w) (hg : TgtL X tg f g) (hs : swapsWithSole [tg] e pos.line X.env = pure false := by rfl) (hw : swappedStores [tg] e X.env = pure none := by rfl)
    (h1 : (assignEach [tg] X.env).map (·.2) = [assign tg X.env] := by rfl) : DS X G T (.Assign [tg] e pos) (wAsgN f w) :=
  ps_weak (ps_asg he hg.1 hs hw h1) fun D σ H ⟨W, ρ, E, ok, h, hn, hr, hb, hc, hx⟩ => by
    refine lE_then (R := fun d ρ' => f d fun l => E.nx (storesR ρ' l)) ok h (hx.z σ ρ) fun d ρ1 W1 x H1 h1 g1 d1 => ?_
    exact hg.2 W1 H1 x d σ _ _ d1 h1 fun l xs hl da => hn _ W1 _ H1 hl (g1.ok.stores da) g1.stp.le
/-! ### what is walked -/
/-- the iterator J hands out the items ds, whatever grows meanwhile -/
def ItOk (K : PySem.W.Frag) (W : Wd) (H : Hp) (J : It) (ds : List D) : Prop := ∀ (i : Nat) (W1 : Wd) (H1 : Hp), Le W H W1 H1 → Al W1 H1 →
  (ds.length ≤ i → J.stop i H1) ∧ ∀ d, ds[i]? = some d → J.go i H1 ∧ ∀ x H2, J.yld i H1 x H2 → ∃ W2, Step no1 W1 H1 W2 H2 ∧ Al W2 H2 ∧ Dn K W2 H2 d x
abbrev WI := ZK → Rho → (List D → Rho → Prop) → Prop
def lI (K : PySem.W.Frag) (G : Gx) (T : WX) (wi : WI) : TI := fun σ H R => ∃ (W : Wd) (ρ : Rho) (N : List D → Rho → Prop) (Z : ZK), Ok K G W ρ σ H ∧ wi Z ρ N ∧
  (∀ ds ρ' W' H' J, N ds ρ' → Go K G σ ρ W H ρ' W' H' → ItOk K W' H' J ds → R J H') ∧ lZ K G T Z σ ρ W H
def DI (X : Cx) (G : Gx) (T : WX) (tg iter : Expr) (wi : WI) : Prop := PI X tg iter (lI X.K G T wi)
theorem pi_weak {X : Cx} {tg e : Expr} {t t' : TI} (h : PI X tg e t) (i : ∀ σ H R, t' σ H R → t σ H R) : PI X tg e t' := ⟨fun p s σ H Q I q => h.run p s σ H Q I (i σ H Q q)⟩
def wItems (w : WE) : WI := fun Z ρ N => w Z ρ fun d ρ' => ∃ ds, d.frz.items = some ds ∧ N ds ρ'
def wItL (w : WE) : WI := fun Z ρ N => w Z ρ fun d ρ' => match d.frz with
  | .lst ds => N ds ρ'
  | .rls ds => N ds ρ'
  | _ => False
def wItT (w : WE) : WI := fun Z ρ N => w Z ρ fun d ρ' => match d.frz with
  | .tup ds => N ds ρ'
  | _ => False
theorem itl_ok {K : PySem.W.Frag} {W : Wd} {H : Hp} {a : Addr} {xs : List V} {ds : List D} (hs : ∀ W1 H1, Le W H W1 H1 → SqL K H1 a xs) (da : DnA K W H ds xs) : ItOk K W H (Itl K a) ds := fun i W1 H1 l al => by
  refine ⟨fun h => ⟨xs, hs W1 H1 l, by rw [← da.length]; exact h⟩, fun d hd => ?_⟩
  obtain ⟨x, e1, e2⟩ := da.get hd
  refine ⟨⟨xs, x, hs W1 H1 l, e1⟩, fun y H2 ⟨e, q⟩ => ?_⟩
  subst e
  have := q xs (hs W1 _ l)
  rw [e1] at this
  cases this
  exact ⟨W1, .refl _ _ _, al, e2.le l⟩
theorem itt_ok {K : PySem.W.Frag} {W : Wd} {H : Hp} {a : Addr} {xs : List V} {ds : List D} (hs : ∀ W1 H1, Le W H W1 H1 → SqT K H1 a xs) (da : DnA K W H ds xs) : ItOk K W H (Itt K a) ds := fun i W1 H1 l al => by
  refine ⟨fun h => ⟨xs, hs W1 H1 l, by rw [← da.length]; exact h⟩, fun d hd => ?_⟩
  obtain ⟨x, e1, e2⟩ := da.get hd
  refine ⟨⟨xs, x, hs W1 H1 l, e1⟩, fun y H2 ⟨e, q⟩ => ?_⟩
  subst e
  have := q xs (hs W1 _ l)
  rw [e1] at this
  cases this
  exact ⟨W1, .refl _ _ _, al, e2.le l⟩
theorem di_list {tg : Expr} (he : DE X G T e w) : DI X G T tg e (wItL w) :=
  pi_weak (pi_list he) fun σ H R ⟨W, ρ, N, Z, ok, h, hN, hZ⟩ => by
    refine lE_then (R := fun d ρ' => match d with | .lst ds => N ds ρ' | .rls ds => N ds ρ' | _ => False) ok h hZ fun d ρ1 W1 x H1 h1 g1 d1 => ?_
    cases d1 <;> first | exact h1.elim | skip
    · rename_i a ds vs f e da
      refine ⟨a, rfl, ⟨vs, SqL.of e⟩, hN _ _ _ _ _ h1 g1 (itl_ok (fun W2 H2 l => SqL.of ((l.k a f).trans e)) da)⟩
    · rename_i a ds vs e da
      exact ⟨a, rfl, ⟨vs, e.sq⟩, hN _ _ _ _ _ h1 g1 (itl_ok (fun W2 H2 l => (e.le l).sq) da)⟩
theorem di_tup {tg : Expr} (he : DE X G T e w) : DI X G T tg e (wItT w) :=
  pi_weak (pi_tup he) fun σ H R ⟨W, ρ, N, Z, ok, h, hN, hZ⟩ => by
    refine lE_then (R := fun d ρ' => match d with | .tup ds => N ds ρ' | _ => False) ok h hZ fun d ρ1 W1 x H1 h1 g1 d1 => ?_
    cases d1 <;> first | exact h1.elim | skip
    rename_i a ds vs e da
    exact ⟨a, rfl, ⟨vs, e.sq⟩, hN _ _ _ _ _ h1 g1 (itt_ok (fun W2 H2 l => (e.le l).sq) da)⟩
/-- a list or a tuple -/
def iSeq (K : PySem.W.Frag) (tl : TE) : TI := fun σ H R => tl σ H fun x H1 => ∃ a, x = .ref a ∧ (((∃ xs, SqL K H1 a xs) ∧ R (Itl K a) H1) ∨ ((∃ xs, SqT K H1 a xs) ∧ R (Itt K a) H1))
theorem pi_seq {tg l : Expr} {tl : TE} (hl : PE X l tl) : PI X tg l (iSeq X.K tl) := by
  constructor
  intro pins s σ H R I h
  refine thn (hl.run pins s σ H _ I h) fun v t ⟨x, H1, J, rv, a, ea, q⟩ => ?_
  subst ea
  cases rv
  have fr : ∀ b ∈ [t.heap.objs.size], FpOk X pins H1 b := fun b hb => by
    cases List.mem_singleton.mp hb
    exact J.fpOk (Nat.le_refl _) (J.hok.fresh (Nat.le_refl _))
  rcases q with ⟨⟨xs, hq⟩, q⟩ | ⟨⟨xs, hq⟩, q⟩
  · obtain ⟨its, _, pl, _⟩ := J.list hq
    exact wpAny_pyIter_list pl.isList ⟨_, [t.heap.objs.size], _, _, H1, rfl, J.kept (t' := t.toks) fun b o e => Heap.get?_push_of_some _ e, turn_list a _, ⟨_, Heap.get?_push_size _ rfl, rfl, rfl⟩, fr, q⟩
  · obtain ⟨its, _, pl, _⟩ := J.tuple hq
    exact wpAny_pyIter_tuple (show t.heap.IsTuple a its.toArray from pl) ⟨_, [t.heap.objs.size], _, _, H1, rfl, J.kept (t' := t.toks) fun b o e => Heap.get?_push_of_some _ e, turn_tuple a _, ⟨_, Heap.get?_push_size _ rfl, rfl, rfl⟩, fr, q⟩
theorem di_seq {tg : Expr} (he : DE X G T e w) : DI X G T tg e (wItems w) :=
  pi_weak (pi_seq he) fun σ H R ⟨W, ρ, N, Z, ok, h, hN, hZ⟩ => by
    refine lE_then (R := fun d ρ' => ∃ ds, d.items = some ds ∧ N ds ρ') ok h hZ fun d ρ1 W1 x H1 ⟨ds, h1, h2⟩ g1 d1 => ?_
    cases d1 with
    | tup e da =>
      cases h1
      exact ⟨_, rfl, .inr ⟨⟨_, e.sq⟩, hN _ _ _ _ _ h2 g1 (itt_ok (fun W2 H2 l => (e.le l).sq) da)⟩⟩
    | lst f e da =>
      cases h1
      exact ⟨_, rfl, .inl ⟨⟨_, SqL.of e⟩, hN _ _ _ _ _ h2 g1 (itl_ok (fun W2 H2 l => SqL.of ((l.k _ f).trans e)) da)⟩⟩
    | rls e da =>
      cases h1
      exact ⟨_, rfl, .inl ⟨⟨_, e.sq⟩, hN _ _ _ _ _ h2 g1 (itl_ok (fun W2 H2 l => (e.le l).sq) da)⟩⟩
    | _ => cases h1
/-- the ints lo, lo + 1, .. n of them -/
def rangeD (lo : Int) (n : Nat) : List D := (List.range n).map fun i => .int (lo + (i : Nat))
theorem itr_ok {K : PySem.W.Frag} {W : Wd} {H : Hp} {lo : Int} {n : Nat} : ItOk K W H (Itr lo n) (rangeD lo n) := fun i W1 H1 l al => by
  unfold rangeD
  refine ⟨fun h => (show n ≤ i by simpa using h), fun d hd => ?_⟩
  rw [List.getElem?_map] at hd
  by_cases q : i < n
  · rw [List.getElem?_range q] at hd
    cases hd
    refine ⟨q, fun y H2 ⟨e1, e2⟩ => ?_⟩
    subst e1 e2
    exact ⟨W1, .refl _ _ _, al, .int _⟩
  · rw [List.getElem?_eq_none (by simpa using q)] at hd
    cases hd
def rg1 (ds : List D) (N : List D → Prop) : Prop := match ds with
  | [.int j] => (-(2 ^ 62) ≤ j ∧ j < 2 ^ 62) ∧ N (rangeD 0 j.toNat)
  | _ => False
def rg2 (ds : List D) (N : List D → Prop) : Prop := match ds with
  | [.int i, .int j] => (-(2 ^ 62) ≤ i ∧ i < 2 ^ 62 ∧ -(2 ^ 62) ≤ j ∧ j < 2 ^ 62) ∧ N (rangeD i (j - i).toNat)
  | _ => False
def wRng (f : List D → (List D → Prop) → Prop) (u : WA) : WI := fun Z ρ N => u Z ρ fun ds ρ' => f ds fun l => N l ρ'
theorem di_range1 {tg : Expr} {ta : WA} (ha : DA X G T [a] ta) (hg : Gl X "range") (hm : X.mg "range" = none) (hs : starEach [a] X.env = [(false, eval a X.env)] := by rfl) : DI X G T tg (.Call (.Name "range" p) [a] [] pos) (wRng rg1 ta) :=
  pi_weak (pi_range1 hg hm ha hs) fun σ H R ⟨W, ρ, N, Z, ok, h, hN, hZ⟩ => ⟨W, ρ, _, Z, ok, h, fun ds ρ1 W1 xs H1 h1 g d => by
    match ds, xs, d, h1 with
    | [.int j], _, .cons (.int _) .nil, h1 => exact ⟨j, rfl, h1.1.1, h1.1.2, hN _ _ _ _ _ h1.2 g itr_ok⟩, hZ⟩
theorem di_range2 {tg : Expr} {ta : WA} (ha : DA X G T [a, b] ta) (hg : Gl X "range") (hm : X.mg "range" = none) (hs : starEach [a, b] X.env = [(false, eval a X.env), (false, eval b X.env)] := by rfl) (hs2 : starEach [b] X.env = [(false, eval b X.env)] := by rfl) : DI X G T tg (.Call (.Name "range" p) [a, b] [] pos) (wRng rg2 ta) :=
  pi_weak (pi_range2 hg hm ha hs hs2) fun σ H R ⟨W, ρ, N, Z, ok, h, hN, hZ⟩ => ⟨W, ρ, _, Z, ok, h, fun ds ρ1 W1 xs H1 h1 g d => by
    match ds, xs, d, h1 with
    | [.int i, .int j], _, .cons (.int _) (.cons (.int _) .nil), h1 => exact ⟨i, j, rfl, h1.1, hN _ _ _ _ _ h1.2 g itr_ok⟩, hZ⟩
/-! ### for -/
abbrev TgF := D → (List (Nat × D) → Prop) → Prop
def wForL (f : TgF) (b : WS) (E : DEnds) : List D → Rho → Prop
  | [] => fun ρ => E.nx ρ
  | d :: ds => fun ρ => f d fun l => b { E with nx := wForL f b E ds, ct := wForL f b E ds, bk := E.nx } (storesR ρ l)
def wFor (wi : WI) (f : TgF) (b : WS) : WS := fun E ρ => wi E.ex ρ fun ds ρ1 => wForL f b E ds ρ1
theorem ds_for {tg iter : Expr} {body : List Stmt} {wi : WI} {f : TgF} {g : TG} (hp : PassesOwn (model X.prog X.w) X.A X.env X.xe) (hi : DI X G T tg iter wi) (hg : TgtL X tg f g) (hb : DSs X G T body u) (hc : X.calm = true := by rfl)
    (hs : ∀ x, foldedSetIterable iter X.env x = pure x := by intro _; rfl) : DS X G T (.For tg iter body [] pos) (wFor wi f u) :=
  ps_weak (ps_for hp hc hi hg.1 hb hs) fun D σ H ⟨W, ρ, E, ok, h, hn, hr, hbk, hct, hx⟩ => by
    refine ⟨W, ρ, _, E.ex, ok, h, fun ds ρ1 W1 H1 J h1 g1 it => ?_, hx.z σ ρ⟩
    refine ⟨fun i m σ' H' => ∃ W' ρ', Ok X.K G W' ρ' σ' H' ∧ wForL f u E (ds.drop i) ρ' ∧ Le W1 H1 W' H' ∧ m = ds.length - i ∧ i ≤ ds.length, ⟨ds.length, W1, ρ1, g1.ok, h1, .refl _ _, rfl, Nat.zero_le _⟩, ?_⟩
    rintro i m σ' H' ⟨W', ρ', ok', h', l, rfl, hle⟩
    obtain ⟨q1, q2⟩ := it i W' H' l ok'.al
    have l0 := g1.stp.le.trans l
    by_cases hi : i < ds.length
    · obtain ⟨d, hd⟩ : ∃ d, ds[i]? = some d := ⟨ds[i], List.getElem?_eq_getElem hi⟩
      obtain ⟨go, yl⟩ := q2 d hd
      rw [List.drop_eq_getElem_cons hi] at h'
      have ed : ds[i] = d := by rw [List.getElem?_eq_getElem hi] at hd; exact Option.some.inj hd
      rw [ed] at h'
      have hN : lN X.K G (wForL f u E (ds.drop (i + 1))) (fun σ2 H2 => ∃ W2 ρ2, Ok X.K G W2 ρ2 σ2 H2 ∧ wForL f u E (ds.drop (i + 1)) ρ2 ∧ Le W1 H1 W2 H2) W' H' := fun ρ2 W2 σ2 H2 q o l2 => ⟨W2, ρ2, o, q, l.trans l2⟩
      refine .inr ⟨go, fun σ2 H2 => ∃ W2 ρ2, Ok X.K G W2 ρ2 σ2 H2 ∧ wForL f u E (ds.drop (i + 1)) ρ2 ∧ Le W1 H1 W2 H2, ?_, fun x H2 hy => ?_⟩
      · rintro σ2 H2 ⟨W2, ρ2, o, q, l2⟩
        exact ⟨ds.length - (i + 1), by omega, W2, ρ2, o, q, l2, rfl, by omega⟩
      · obtain ⟨W2, st, al2, hd2⟩ := yl x H2 hy
        have g2 := ok'.grow st al2
        refine hg.2 W2 H2 x d σ' _ _ hd2 h' fun lst xs hl da => ?_
        exact lS_on (E := { E with nx := wForL f u E (ds.drop (i + 1)), ct := wForL f u E (ds.drop (i + 1)), bk := E.nx }) (g2.ok.stores da) g2.stp.le hl hN (hr.le l0) (hn.le l0) hN (hx.le l0)
    · have e : i = ds.length := by omega
      subst e
      rw [List.drop_length] at h'
      exact .inl ⟨q1 (Nat.le_refl _), hn ρ' W' σ' H' h' ok' l0⟩
/-! ### comprehensions -/
def wipeR (ρ : Rho) : List Nat → Rho
  | [] => ρ
  | i :: is => (wipeR ρ is).set i none
abbrev noZ : ZK := fun _ _ => False
abbrev noT : WX := fun _ _ _ _ => False
/-- the slots vs hold nothing own -/
def NoOwn (ρ : Rho) (vs : List Nat) : Prop := ∀ i ∈ vs, ∀ d : S, ρ[i]? = some (some d) → d.isOwn = false
def wLcL (f : TgF) (t : WT) (e : WE) (ρ : Rho) (R : List D → Prop) : List D → List D → Prop
  | [], acc => R acc
  | d :: ds, acc => f d fun l => t noZ (storesR ρ l) fun b ρ3 => ρ3 = storesR ρ l ∧ if b = true then e noZ (storesR ρ l) fun y ρ4 => ρ4 = storesR ρ l ∧ acc.length < sizeLine ∧ wLcL f t e ρ R ds (acc ++ [y.frz]) else wLcL f t e ρ R ds acc
def wLc (wi : WI) (f : TgF) (t : WT) (e : WE) (vs : List Nat) : WE := fun Z ρ R => wi Z ρ fun ds ρ1 => NoOwn ρ1 vs ∧ wLcL f t e (wipeR ρ1 vs) (fun acc => R (.own acc) ρ1) ds []
def wYes : WT := fun _ ρ R => R true ρ
def DTs (X : Cx) (G : Gx) (T : WX) (ifs : List Expr) (w : WT) : Prop := PTs X ifs (lT X.K G T w)
theorem pts_weak {ifs : List Expr} {t t' : TT} (h : PTs X ifs t) (i : ∀ σ H Q, t' σ H Q → t σ H Q) : PTs X ifs t' := ⟨fun p s σ H Q I q => h.run p s σ H Q I (i σ H Q q)⟩
theorem dts_nil : DTs X G T [] wYes := pts_weak pts_nil fun σ H Q ⟨W, ρ, R, Z, ok, h, hR, _⟩ => hR _ _ _ _ h (.refl ok)
theorem dts_one (h : DT X G T e t) : DTs X G T [e] t := pts_one h
theorem wipe_get {σ : L2.St} {i : Nat} : ∀ {vs : List Nat}, i ∉ vs → (wipe σ vs)[i]? = σ[i]?
  | [], _ => rfl
  | v :: vs, h => by
    simp only [List.mem_cons, not_or] at h
    show ((wipe σ vs).set v none)[i]? = _
    rw [List.getElem?_set_ne (fun q => h.1 q.symm)]
    exact wipe_get h.2
theorem wipeR_some {ρ : Rho} {i : Nat} {d : S} : ∀ {vs : List Nat}, (wipeR ρ vs)[i]? = some (some d) → ρ[i]? = some (some d) ∧ i ∉ vs
  | [], h => ⟨h, by simp⟩
  | v :: vs, h => by
    have h' : ((wipeR ρ vs).set v none)[i]? = some (some d) := h
    rcases set_get h' with ⟨_, z⟩ | ⟨z1, z2⟩
    · cases z
    · obtain ⟨a, b⟩ := wipeR_some z2
      exact ⟨a, by simp only [List.mem_cons, not_or]; exact ⟨fun q => z1 q.symm, b⟩⟩
theorem wipeR_length (ρ : Rho) : ∀ vs, (wipeR ρ vs).length = ρ.length
  | [] => rfl
  | v :: vs => by show ((wipeR ρ vs).set v none).length = _; rw [List.length_set]; exact wipeR_length ρ vs
theorem Ok.wipe {K : PySem.W.Frag} {σ : L2.St} {ρ : Rho} {W : Wd} {H : Hp} (ok : Ok K G W ρ σ H) (vs : List Nat) : Ok K G W (wipeR ρ vs) (wipe σ vs) H := by
  have ow : ∀ a, Ow (wipeR ρ vs) (L2.wipe σ vs) a → Ow ρ σ a := fun a ⟨i, d, h1, h2, h3⟩ => by
    obtain ⟨a1, a2⟩ := wipeR_some h1
    rw [wipe_get a2] at h3
    exact ⟨i, d, a1, h2, h3⟩
  refine ⟨by rw [wipe_length, wipeR_length, ok.len], fun i d h => ?_, fun a h => ok.frs a (ow a h), fun i j d e a h1 h2 o1 o2 s1 s2 => ?_, ok.al, ok.en⟩
  · obtain ⟨a1, a2⟩ := wipeR_some h
    rw [wipe_get a2]
    exact ok.val i d a1
  · obtain ⟨a1, a2⟩ := wipeR_some h1
    obtain ⟨b1, b2⟩ := wipeR_some h2
    rw [wipe_get a2] at s1
    rw [wipe_get b2] at s2
    exact ok.inj i j d e a a1 b1 o1 o2 s1 s2
/-- only slots of vs are stored -/
def TgIn (f : TgF) (vs : List Nat) : Prop := ∀ d N N', f d N → (∀ l, N l → (∀ p ∈ l, p.1 ∈ vs) → N' l) → f d N'
theorem tin_name {i : Nat} {vs : List Nat} (h : i ∈ vs) : TgIn (fName i) vs := fun d N N' f k => k _ f fun p hp => by
  simp only [List.mem_singleton] at hp; subst hp; exact h
theorem tin_tup {is vs : List Nat} (h : ∀ i ∈ is, i ∈ vs) : TgIn (fTupN is) vs := fun d N N' f k => by
  cases d <;> first | exact f.elim | skip
  exact ⟨f.1, k _ f.2 fun p hp => h _ (List.of_mem_zip hp).1⟩
theorem wipe_set {σ : L2.St} {i : Nat} {o : Option V} : ∀ {vs : List Nat}, i ∈ vs → wipe (σ.set i o) vs = wipe σ vs
  | v :: vs, h => by
    show (wipe (σ.set i o) vs).set v none = (wipe σ vs).set v none
    by_cases q : i ∈ vs
    · rw [wipe_set q]
    · have e : i = v := by simpa [q] using h
      subst e
      apply List.ext_getElem?
      intro j
      by_cases qj : i = j
      · subst qj
        simp [List.getElem?_set, wipe_length, List.length_set]
      · rw [List.getElem?_set_ne qj, List.getElem?_set_ne qj]
        have : ∀ (vs : List Nat), (wipe (σ.set i o) vs)[j]? = (wipe σ vs)[j]? := fun vs => by
          induction vs with
          | nil => exact List.getElem?_set_ne qj
          | cons u us ih =>
            show ((wipe (σ.set i o) us).set u none)[j]? = ((wipe σ us).set u none)[j]?
            rw [List.getElem?_set, List.getElem?_set, ih, wipe_length, wipe_length, List.length_set]
        exact this vs
theorem wipe_stores {vs : List Nat} : ∀ {l : List (Nat × D)} {σ : L2.St} {xs : List V}, (∀ p ∈ l, p.1 ∈ vs) → wipe (stores σ (l.map (·.1)) xs) vs = wipe σ vs
  | [], _, _, _ => rfl
  | (i, d) :: l, σ, [], _ => rfl
  | (i, d) :: l, σ, x :: xs, h => by
    show wipe (stores (σ.set i (some x)) (l.map (·.1)) xs) vs = _
    rw [wipe_stores (l := l) (fun p hp => h p (List.mem_cons_of_mem _ hp)), wipe_set (h (i, d) (List.mem_cons_self ..))]
theorem wipe_wipe {σ : L2.St} : ∀ {us vs : List Nat}, (∀ i ∈ us, i ∈ vs) → wipe (wipe σ us) vs = wipe σ vs
  | [], _, _ => rfl
  | u :: us, vs, h => by
    show wipe ((wipe σ us).set u none) vs = _
    rw [wipe_set (h u (List.mem_cons_self ..)), wipe_wipe fun i hi => h i (List.mem_cons_of_mem _ hi)]
theorem ow_wipe {ρ : Rho} {σ : L2.St} {vs : List Nat} {a : Addr} (h : Ow (wipeR ρ vs) (wipe σ vs) a) : Ow ρ σ a := by
  obtain ⟨i, d, h1, h2, h3⟩ := h
  obtain ⟨a1, a2⟩ := wipeR_some h1
  rw [wipe_get a2] at h3
  exact ⟨i, d, a1, h2, h3⟩
theorem ow_stores {K : PySem.W.Frag} {W : Wd} {H : Hp} {a : Addr} : ∀ {l : List (Nat × D)} {ρ : Rho} {σ : L2.St} {xs : List V}, DnA K W H (l.map (·.2)) xs → Ow (storesR ρ l) (stores σ (l.map (·.1)) xs) a → Ow ρ σ a
  | [], _, _, _, _, h => h
  | (i, d) :: l, ρ, σ, _, .cons (x := x) h1 h2, h => by
    obtain ⟨j, e, e1, e2, e3⟩ := ow_stores (l := l) h2 h
    rcases set_get e1 with ⟨z1, z2⟩ | ⟨z1, z2⟩
    · cases z2; cases e2
    · rw [List.getElem?_set_ne z1] at e3
      exact ⟨j, e, z2, e2, e3⟩
/-- an object that nobody else knows is written -/
theorem Ok.write {K : PySem.W.Frag} {σ : L2.St} {ρ : Rho} {W : Wd} {H : Hp} {p : Addr} {o : HO} (ok : Ok K G W ρ σ H) (hf : ¬ W.F p) (hj : ¬ W.J p) (h0 : G.H p = none) (ho : ¬ Ow ρ σ p) : Ok K G W ρ σ (upd H p o) := by
  have l : Le W H W (upd H p o) := ⟨fun _ h => h, fun _ h => h, fun a h => upd_ne fun e => hf (by rw [← e]; exact h)⟩
  refine ⟨ok.len, fun i d h => ?_, ok.frs, ok.inj, ⟨fun a h => ?_, fun a h => ?_, ok.al.d⟩, ⟨ok.en.le.trans l, ok.en.nF, ok.en.nJ, fun a u e nj no => ?_, fun a e => ?_⟩⟩
  · obtain ⟨x, e, r⟩ := ok.val i d h
    exact ⟨x, e, r.le l fun o q eq => upd_ne fun z => ho (by rw [← z]; exact ⟨i, d, h, o, by rw [e, eq]⟩)⟩
  · rw [l.k a h]; exact ok.al.f a h
  · obtain ⟨x, y, z, e, b⟩ := ok.al.j a h
    exact ⟨x, y, z, by rw [upd_ne fun q => hj (by rw [← q]; exact h)]; exact e, b⟩
  · rw [upd_ne (ne_of_none e h0)]; exact ok.en.st a u e nj no
  · by_cases q : a = p
    · subst q; exact h0
    · rw [upd_ne q] at e; exact ok.en.up a e
theorem Step.write {ow : Addr → Prop} {W W1 : Wd} {H H1 : Hp} {p : Addr} {o : HO} (s : Step ow W H W1 H1) (al : Al W H) (h0 : H p = none) : Step ow W H W1 (upd H1 p o) where
  le := ⟨s.le.F, s.le.J, fun a h => by
    obtain ⟨u, e⟩ := al.f a h
    rw [upd_ne (ne_of_none e h0)]; exact s.le.k a h⟩
  nF := s.nF
  nJ := s.nJ
  st := fun a u e nj no => by rw [upd_ne (ne_of_none e h0)]; exact s.st a u e nj no
  up := fun a e => by
    by_cases q : a = p
    · subst q; exact h0
    · rw [upd_ne q] at e; exact s.up a e
theorem storesR_ne {i : Nat} : ∀ {l : List (Nat × D)} {ρ : Rho}, (∀ p ∈ l, p.1 ≠ i) → (storesR ρ l)[i]? = ρ[i]?
  | [], _, _ => rfl
  | (j, d) :: l, ρ, h => by
    show (storesR (ρ.set j _) l)[i]? = _
    rw [storesR_ne (l := l) fun p hp => h p (List.mem_cons_of_mem _ hp), List.getElem?_set_ne (h (j, d) (List.mem_cons_self ..))]
theorem stores_ne {i : Nat} : ∀ {is : List Nat} {σ : L2.St} {xs : List V}, (∀ p ∈ is, p ≠ i) → (stores σ is xs)[i]? = σ[i]?
  | [], _, _, _ => by unfold stores; rfl
  | _ :: _, _, [], _ => by unfold stores; rfl
  | j :: is, σ, x :: xs, h => by
    show (stores (σ.set j _) is xs)[i]? = _
    rw [stores_ne (is := is) fun p hp => h p (List.mem_cons_of_mem _ hp), List.getElem?_set_ne (h j (List.mem_cons_self ..))]
theorem wipeR_ne {ρ : Rho} {i : Nat} : ∀ {vs : List Nat}, i ∉ vs → (wipeR ρ vs)[i]? = ρ[i]?
  | [], _ => rfl
  | v :: vs, h => by
    simp only [List.mem_cons, not_or] at h
    show ((wipeR ρ vs).set v none)[i]? = _
    rw [List.getElem?_set_ne (fun q => h.1 q.symm)]
    exact wipeR_ne h.2
/-- behind a block, the slots as they were -/
theorem Ok.unblk {K : PySem.W.Frag} {σ : L2.St} {ρ : Rho} {W W' : Wd} {H H' : Hp} {vs : List Nat} {l : List (Nat × D)} {xs : List V} (ok0 : Ok K G W ρ σ H) (n : NoOwn ρ vs) (hl : ∀ p ∈ l, p.1 ∈ vs)
    (ok : Ok K G W' (storesR (wipeR ρ vs) l) (DL.stores (L2.wipe σ vs) (l.map (·.1)) xs) H') (le : Le W H W' H') : Ok K G W' ρ σ H' := by
  have e1 : ∀ i, i ∉ vs → (storesR (wipeR ρ vs) l)[i]? = ρ[i]? := fun i h => by
    rw [storesR_ne (i := i) (fun p hp q => h (by rw [← q]; exact hl p hp)), wipeR_ne h]
  have e2 : ∀ i, i ∉ vs → (DL.stores (L2.wipe σ vs) (l.map (·.1)) xs)[i]? = σ[i]? := fun i h => by
    rw [stores_ne (fun p hp q => ?_), wipe_get h]
    obtain ⟨z, hz, rfl⟩ := List.mem_map.mp hp
    exact h (by rw [← q]; exact hl z hz)
  have nv : ∀ (i : Nat) (d : S), ρ[i]? = some (some d) → d.isOwn = true → i ∉ vs := fun i d h o q => by rw [n i q d h] at o; cases o
  refine ⟨ok0.len, fun i d h => ?_, fun a ⟨i, d, h1, h2, h3⟩ => ?_, fun i j d e a h1 h2 o1 o2 s1 s2 => ?_, ok.al, ok.en⟩
  · by_cases q : i ∈ vs
    · obtain ⟨x, e, r⟩ := ok0.val i d h
      refine ⟨x, e, r.le le fun o => ?_⟩
      rw [n i q d h] at o; cases o
    · rw [← e2 i q]; exact ok.val i d (by rw [e1 i q]; exact h)
  · have q := nv i d h1 h2
    exact ok.frs a ⟨i, d, by rw [e1 i q]; exact h1, h2, by rw [e2 i q]; exact h3⟩
  · have q := nv i d h1 o1
    have q' := nv j e h2 o2
    exact ok.inj i j d e a (by rw [e1 i q]; exact h1) (by rw [e1 j q']; exact h2) o1 o2 (by rw [e2 i q]; exact s1) (by rw [e2 j q']; exact s2)
theorem lE_lc {K : PySem.W.Frag} {X' : Cx} (hK : X'.K = K) {wi : WI} {f : TgF} {g : TG} {tg : Expr} {te : WE} {vs : List Nat} (hg : TgtL X' tg f g) (hin : TgIn f vs) {σ : L2.St} {H : Hp} {Q : VK} (h : lE K G T (wLc wi f t te vs) σ H Q) :
    tLc (lI K G T wi) g (lT K G noT t) (lE K G noT te) vs σ H Q := by
  subst hK
  obtain ⟨W, ρ, R, Z, ok, h, hR, hZ⟩ := h
  refine ⟨W, ρ, _, Z, ok, h, fun ds ρ1 W1 H1 J ⟨hno, h1⟩ g1 it D hD => ?_, hZ⟩
  have al1 := g1.ok.al
  have hD0 : G.H D = none := g1.ok.upG hD
  have nOD : ¬ Ow ρ1 σ D := fun q => by
    obtain ⟨o, e⟩ := g1.ok.here q
    rw [hD] at e; cases e
  have start := Go.new (o := .lst []) g1.ok hD
  refine ⟨fun i m H' => ∃ W' acc xs, Ok X'.K G W' ρ1 σ H' ∧ H' D = some (.lst xs) ∧ DnA X'.K W' H' acc xs ∧ ¬ W'.F D ∧ ¬ W'.J D ∧ wLcL f t te (wipeR ρ1 vs) (fun acc => R (.own acc) ρ1) (ds.drop i) acc ∧ Step (Ow ρ1 σ) W1 H1 W' H' ∧ m = ds.length - i ∧ i ≤ ds.length, ?_, ?_⟩
  · refine ⟨ds.length, W1, [], [], start.ok, upd_same, .nil, fun q => ?_, fun q => ?_, h1, start.stp, rfl, Nat.zero_le _⟩
    · obtain ⟨o, e⟩ := al1.f D q; rw [hD] at e; cases e
    · obtain ⟨x, y, z, e, _⟩ := al1.j D q; rw [hD] at e; cases e
  rintro i m H' ⟨W', acc, xs, ok', eD, da, nF, nJ, h', st, rfl, hle⟩
  obtain ⟨q1, q2⟩ := it i W' H' st.le ok'.al
  by_cases hi : i < ds.length
  · obtain ⟨d, hd⟩ : ∃ d, ds[i]? = some d := ⟨ds[i], List.getElem?_eq_getElem hi⟩
    obtain ⟨go, yl⟩ := q2 d hd
    have ed : ds[i] = d := by rw [List.getElem?_eq_getElem hi] at hd; exact Option.some.inj hd
    rw [List.drop_eq_getElem_cons hi, ed] at h'
    refine .inr ⟨go, fun H2 => ∃ W' acc xs, Ok X'.K G W' ρ1 σ H2 ∧ H2 D = some (.lst xs) ∧ DnA X'.K W' H2 acc xs ∧ ¬ W'.F D ∧ ¬ W'.J D ∧ wLcL f t te (wipeR ρ1 vs) (fun acc => R (.own acc) ρ1) (ds.drop (i + 1)) acc ∧ Step (Ow ρ1 σ) W1 H1 W' H2, ?_, fun x H2 hy => ?_⟩
    · rintro H2 ⟨W2, acc2, xs2, o, e, da2, f1, f2, q, s2⟩
      exact ⟨ds.length - (i + 1), by omega, W2, acc2, xs2, o, e, da2, f1, f2, q, s2, rfl, by omega⟩
    · obtain ⟨W2, st2, al2, hd2⟩ := yl x H2 hy
      have g2 := ok'.grow st2 al2
      have okb := g2.ok.wipe vs
      refine hg.2 W2 H2 x d (wipe σ vs) _ _ hd2 (hin d _ _ h' fun l hl hv => (⟨hl, hv⟩ : _ ∧ ∀ p ∈ l, p.1 ∈ vs)) fun l xs' ⟨hl, hv⟩ dl => ?_
      have ok3 := okb.stores dl
      have owS : ∀ a, Ow (storesR (wipeR ρ1 vs) l) (stores (wipe σ vs) (l.map (·.1)) xs') a → Ow ρ1 σ a := fun a q => ow_wipe (ow_stores dl q)
      have nD2 : W2.F D → False := fun q => (st2.nF D q).elim nF fun z => z.elim (fun e => by rw [eD] at e; cases e) id
      have nJ2 : W2.J D → False := fun q => (st2.nJ D q).elim nJ fun e => by rw [eD] at e; cases e
      have eD2 : H2 D = some (.lst xs) := st2.st D _ eD nJ fun q => q
      have sA : Step (Ow ρ1 σ) W1 H1 W2 H2 := st.trans st2 fun _ q => q.elim
      refine ⟨by rw [wipe_stores hv, wipe_wipe fun _ h => h], ?_⟩
      refine ⟨W2, _, _, noZ, ok3, hl, fun b ρ3 W3 H3 ⟨e3, hb⟩ g3 => ?_, fun _ _ _ _ _ _ q => q.elim⟩
      subst e3
      have nD3 : W3.F D → False := fun q => (g3.stp.nF D q).elim nD2 fun z => z.elim (fun e => by rw [eD2] at e; cases e) fun q => nOD (owS D q)
      have nJ3 : W3.J D → False := fun q => (g3.stp.nJ D q).elim nJ2 fun e => by rw [eD2] at e; cases e
      have eD3 : H3 D = some (.lst xs) := g3.stp.st D _ eD2 nJ2 fun q => nOD (owS D q)
      have sB : Step (Ow ρ1 σ) W1 H1 W3 H3 := sA.trans g3.stp fun a q => .inl (owS a q)
      cases b with
      | false =>
        simp only [Bool.false_eq_true, if_false] at hb ⊢
        exact ⟨W3, acc, xs, ok'.unblk hno hv g3.ok (st2.le.trans g3.stp.le), eD3, da.le (st2.le.trans g3.stp.le), nD3, nJ3, hb, sB⟩
      | true =>
        simp only [if_true] at hb ⊢
        refine lE_then (T := noT) (R := fun y ρ4 => ρ4 = storesR (wipeR ρ1 vs) l ∧ acc.length < sizeLine ∧ wLcL f t te (wipeR ρ1 vs) (fun acc => R (.own acc) ρ1) (ds.drop (i + 1)) (acc ++ [y])) g3.ok hb (fun _ _ _ _ _ _ q => q.elim) fun y ρ4 W4 z H4 ⟨e4, hlen, h4⟩ g4 d4 => ?_
        subst e4
        have nD4 : W4.F D → False := fun q => (g4.stp.nF D q).elim nD3 fun z => z.elim (fun e => by rw [eD3] at e; cases e) fun q => nOD (owS D q)
        have nJ4 : W4.J D → False := fun q => (g4.stp.nJ D q).elim nJ3 fun e => by rw [eD3] at e; cases e
        have eD4 : H4 D = some (.lst xs) := g4.stp.st D _ eD3 nJ3 fun q => nOD (owS D q)
        have l4 : Le W' H' W4 H4 := (st2.le.trans g3.stp.le).trans g4.stp.le
        have lw : Le W4 H4 W4 (upd H4 D (.lst (xs ++ [z]))) := ⟨fun _ h => h, fun _ h => h, fun a h => upd_ne fun e => nD4 (by rw [← e]; exact h)⟩
        refine ⟨xs, eD4, by rw [← da.length]; exact hlen, W4, acc ++ [y], xs ++ [z], (ok'.unblk hno hv g4.ok l4).write nD4 nJ4 hD0 nOD, upd_same, ((da.le l4).append (.cons d4 .nil)).le lw, nD4, nJ4, h4, ?_⟩
        exact (sB.trans g4.stp fun a q => .inl (owS a q)).write al1 hD
  · have e : i = ds.length := by omega
    subst e
    rw [List.drop_length] at h'
    refine .inl ⟨q1 (Nat.le_refl _), hR (.own acc) ρ1 W' (.ref D) H' h' (g1.trans ⟨ok', st, fun _ q => q⟩) ⟨⟨D, xs, rfl, eD, da⟩, fun _ p e => ?_⟩⟩
    cases e
    exact ⟨nF, nJ, g1.stp.up D hD⟩
theorem de_lc {elt tg iter : Expr} {ifs : List Expr} {scope : Scope} {own : List (Str × Nat)} {wi : WI} {f : TgF} {g : TG} {te : WE} (hN : X.N.Nodup) (hi : DI X G T tg iter wi) (ok : BlkOk X.N X.env.scope scope own)
    (hg : ∀ (s : Shared) (H : Hp) (C : Addr) (cl : List (Str × Addr)) (fp : List Addr), TgtL (X.blk s H scope (compEnvC scope cl C X.env) fp) tg f g) (hin : TgIn f (own.map (·.2)))
    (ht : ∀ (s : Shared) (H : Hp) (C : Addr) (cl : List (Str × Addr)) (fp : List Addr), DTs (X.blk s H scope (compEnvC scope cl C X.env) fp) G noT ifs t)
    (he : ∀ (s : Shared) (H : Hp) (C : Addr) (cl : List (Str × Addr)) (fp : List Addr), DE (X.blk s H scope (compEnvC scope cl C X.env) fp) G noT elt te) (hc : X.calm = true := by rfl) (hs : ∀ x, foldedSetIterable iter X.env x = pure x := by intro _; rfl) :
    DE X G T (.ListComp elt [⟨tg, iter, ifs, 0⟩] scope pos) (wLc wi f t te (own.map (·.2))) :=
  ⟨fun pins s σ H Q I h => (pe_lc (tt := lT X.K G noT t) (te := lE X.K G noT te) hc hN hi ok (fun s H C cl fp => (hg s H C cl fp).1) ht he hs).run pins s σ H Q I (lE_lc (X' := X.blk s H scope (compEnvC scope [] 0 X.env) []) rfl (hg s H 0 [] []) hin h)⟩
theorem ds_setLc {i : Nat} {y : Str} {py : Pos} {elt tg iter : Expr} {ifs : List Expr} {scope : Scope} {own : List (Str × Nat)} {spos : Pos} {wi : WI} {f : TgF} {g : TG} {te : WE} (hN : X.N.Nodup) (hi : DI X G T tg iter wi) (ok : BlkOk X.N X.env.scope scope own)
    (hg : ∀ (s : Shared) (H : Hp) (C : Addr) (cl : List (Str × Addr)) (fp : List Addr), TgtL (X.blk s H scope (compEnvC scope cl C X.env) fp) tg f g) (hin : TgIn f (own.map (·.2)))
    (ht : ∀ (s : Shared) (H : Hp) (C : Addr) (cl : List (Str × Addr)) (fp : List Addr), DTs (X.blk s H scope (compEnvC scope cl C X.env) fp) G noT ifs t)
    (he : ∀ (s : Shared) (H : Hp) (C : Addr) (cl : List (Str × Addr)) (fp : List Addr), DE (X.blk s H scope (compEnvC scope cl C X.env) fp) G noT elt te)
    (hsw : swapsWith (.ListComp elt [⟨tg, iter, ifs, 0⟩] scope pos) (some (.Name y py)) spos.line X.env = pure true) (hy : X.N[i]? = some y := by rfl) (hyl : X.env.scope.names.lookup y = some .local := by rfl) (hc : X.calm = true := by rfl)
    (hs : ∀ x, foldedSetIterable iter X.env x = pure x := by intro _; rfl) :
    DS X G T (.Assign [.Name y py] (.ListComp elt [⟨tg, iter, ifs, 0⟩] scope pos) spos) (wSet i (wLc wi f t te (own.map (·.2)))) :=
  ⟨fun pins s σ H D I h => (ps_setLc (tt := lT X.K G noT t) (te := lE X.K G noT te) hc hN hy hyl hsw hi ok (fun s H C cl fp => (hg s H C cl fp).1) ht he hs).run pins s σ H D I (lS_set (fun Q q => lE_lc (X' := X.blk s H scope (compEnvC scope [] 0 X.env) []) rfl (hg s H 0 [] []) hin q) h)⟩
end
end DL

/-! DL4: defs over data, their calls, the law's end. -/
namespace DL
open PySem PySem.Spec L2
/-- behind a call -/
structure Ret (K : PySem.W.Frag) (W : Wd) (H : Hp) (W' : Wd) (H' : Hp) (d : S) (x : V) : Prop where
  al : Al W' H'
  stp : Step no1 W H W' H'
  res : Res K H W' H' d x
structure RetX (K : PySem.W.Frag) (W : Wd) (H : Hp) (W' : Wd) (H' : Hp) (x : Exn) (c : Value) (dx : Option Addr) : Prop where
  al : Al W' H'
  stp : Step no1 W H W' H'
  ex : ExAt K W' H' x c dx
/-- the def at f does over data what wf says; k: how deep it calls -/
def FnG (P : Program) (w : World) (K : PySem.W.Frag) (mg : Str → Option Value) (base : Heap) (k : Nat) (f : Addr) (fd : FuncData) (ps : List Str) (wf : WF) : Prop :=
  ∀ (A : Around) (outer : List PySem.Env) (s : Shared) (H : Hp) (args : Args) (us : List Value) (vs : List V) (ds : List D) (W : Wd) (R : S → Prop) (Z : Exn → Prop) (Q : VK) (E : XK),
    A.guards = some [] → Room k A → Env0 P w K mg base A outer s H → BindsTo s fd args (ps.zip us) → Vals vs us → ds.length = ps.length → Al W H → DnA K W H ds vs → wf Z ds R →
    (∀ d W' x H', R d → Ret K W H W' H' d x → Q x H') → (∀ x W' H' c dx, Z x → RetX K W H W' H' x c dx → E c dx H') →
    codeAny (model P w) A (.call (.ref f) args) (CR (L2.CX P w) outer P w H s Q E) s
/-- what a body's context gives -/
structure CxG (X : Cx) (T : WX) (k : Nat) : Prop where
  tk : Takes X T
  gd : X.A.guards = some []
  rm : Room k X.A
  po : PassesOwn (model X.prog X.w) X.A X.env X.xe
theorem CxG.u64 {X : Cx} {T : WX} {k : Nat} (c : CxG X T k) : X.A.units + 64 < cLine := c.rm.units
theorem takes_no {X : Cx} : Takes X noT := fun u s' h => by
  obtain ⟨_, _, _, _, _, _, _, _, _, _, _, _, _, _, _, _, z⟩ := h
  exact z.elim
theorem CxG.blk {X : Cx} {T : WX} {k : Nat} (c : CxG X T k) (s : Shared) (H : Hp) (sc : Scope) (e : PySem.Env) (fp : List Addr) (po : PassesOwn (model X.prog X.w) X.A e fun _ _ => False) : CxG (X.blk s H sc e fp) noT k :=
  ⟨takes_no, c.gd, c.rm, po⟩
def rho0 (N : List Str) (ds : List D) : Rho := ds.map (fun d => some (.d d)) ++ List.replicate (N.length - ds.length) none
theorem start_ok {K : PySem.W.Frag} {W : Wd} {H : Hp} {N : List Str} {ds : List D} {vs : List V} (al : Al W H) (h : DnA K W H ds vs) : Ok K ⟨W, H⟩ W (rho0 N ds) (L2.start N vs) H := by
  have hl := h.length
  have noO : ∀ (i : Nat) (d : S), (rho0 N ds)[i]? = some (some d) → ∃ e, d = .d e ∧ ds[i]? = some e := fun i d e => by
    unfold rho0 at e
    by_cases q : i < ds.length
    · rw [List.getElem?_append_left (by rw [List.length_map]; exact q), List.getElem?_map] at e
      cases z : ds[i]? with
      | none => rw [z] at e; cases e
      | some y => rw [z] at e; cases e; exact ⟨y, rfl, rfl⟩
    · rw [List.getElem?_append_right (by rw [List.length_map]; omega), List.getElem?_replicate] at e
      split at e <;> cases e
  refine ⟨?_, fun i d e => ?_, fun a ⟨i, d, e, o, _⟩ => ?_, fun i j d e a h1 h2 o1 => ?_, al, .refl _ _ _⟩
  · unfold L2.start rho0
    rw [List.length_append, List.length_append, List.length_map, List.length_map, List.length_replicate, List.length_replicate, hl]
  · obtain ⟨y, rfl, hy⟩ := noO i d e
    obtain ⟨x, e1, e2⟩ := h.get hy
    refine ⟨x, ?_, e2⟩
    unfold L2.start
    rw [List.getElem?_append_left (by rw [List.length_map]; exact (List.getElem?_eq_some_iff.mp e1).1), List.getElem?_map, e1]
    rfl
  · obtain ⟨y, rfl, _⟩ := noO i d e; cases o
  · obtain ⟨y, rfl, _⟩ := noO i d h1; cases o1
section
variable {P : Program} {w : World} {K : PySem.W.Frag} {mg : Str → Option Value} {base : Heap}
/-- THE RULE for a def -/
theorem ok_def {x qual : Str} {st : Stmt} {f : Addr} {fd : FuncData} {N ps : List Str} {k : Nat} {wf : WF} {wb : WS} (F : Fun K x qual st f fd) (Sc : FnScope N ps (defScope st))
    (hw : ∀ Z ds R, ds.length = ps.length → wf Z ds R → wb ⟨fun _ => R (.d .non), R, fun _ => False, fun _ => False, fun x _ => Z x⟩ (rho0 N ds))
    (hb : ∀ (cdv : Value) (A : Around) (outer : List PySem.Env) (s : Shared) (H : Hp) (E : XK) (W : Wd), CxG (cxOf (L2.CX P w) P w K mg base N qual (defScope st) f cdv A outer s H E) (fun cls d _ H => E cls d H) k →
      DSs (cxOf (L2.CX P w) P w K mg base N qual (defScope st) f cdv A outer s H E) ⟨W, H⟩ (fun cls d _ H => E cls d H) (defBody st) wb) :
    FnG P w K mg base (k + 1) f fd ps wf := by
  intro A outer s H args us vs ds W R Z Q E hg hr e0 hbd r hlen al da hwf hQ hE
  obtain ⟨oc, od, kV, doc, pm, an, cdv, ct, osl, rfl, lk, hcd⟩ := F.ex
  have hl : vs.length = ps.length := by rw [← da.length]; exact hlen
  have inK : K.In s.heap := e0.mod.kin.keeps fun b o q => (e0.bs b o q).1
  have noLim : s.heap.NoLimit := e0.mod.nolimit.keeps fun b o q => (e0.bs b o q).1
  have kinds : ∀ y ∈ ps.zip us, (defScope st).names.lookup y.1 = some .local ∨ ((defScope st).names.lookup y.1 = some .cell ∧ ((cellsFrom (s.heap.objs.size + 1) (defScope st).names []).lookup y.1).isSome = true) := fun ⟨n, v⟩ hy =>
    (Sc.par n (List.of_mem_zip hy).1).imp id fun q => ⟨q, PySem.W.cellsFrom_some _ _ _ (.inl q)⟩
  refine codeAny_call_function hr.depth (inK _ _ lk) rfl Sc.co Sc.gen rfl (PySem.W.codeRec_of inK hcd) (hbd _ _ _ _ ?_)
  refine wpAny_newFunctionEnv_cells Sc.kind kinds fun env he s1 xx => ?_
  subst he
  refine ⟨noLim.keeps xx.toInCall.keep, codeAny_func ?_⟩
  have I : Inv (cxOf (L2.CX P w) P w K mg base N qual (defScope st) f cdv A outer s H E) [] (L2.start N vs) H s1 := inv_start Sc hr.hd e0 hl r xx
  have C : CxG (cxOf (L2.CX P w) P w K mg base N qual (defScope st) f cdv A outer s H E) (fun cls d _ H => E cls d H) k :=
    ⟨takes_of rfl rfl rfl rfl, hg, hr.deeper _, passes_of rfl⟩
  have D := hb cdv A outer s H E W C
  have body := hw Z ds R hlen hwf
  have ok0 := start_ok (N := N) al da
  refine wpAny_mono (D.run [] s1 (L2.start N vs) H { nx := fun _ H' => Q .non H', rt := Q } I ⟨W, rho0 N ds, _, ok0, body, fun ρ' W' σ' H' h o l => ?_, fun d ρ' W' σ' y H' h o l rr => ?_, fun _ _ _ _ q => q.elim, fun _ _ _ _ q => q.elim, fun z ρ' W' σ' H' c dx h o l ex => ?_⟩) (fun fl s' hs => ?_) fun e s' hs => hs
  · exact hQ _ W' _ H' h ⟨o.al, o.en, .of .non⟩
  · exact hQ _ W' _ H' h ⟨o.al, o.en, rr⟩
  · exact hE _ W' _ _ _ h ⟨o.al, o.en, ex⟩
  have fin : ∀ {σ' : L2.St} {H' : Hp} {v : V} {u : Value}, Inv (cxOf (L2.CX P w) P w K mg base N qual (defScope st) f cdv A outer s H E) [] σ' H' s' → RelV v u → Q v H' → CE outer P w H s Q u s' :=
    fun {σ' H' v u} J rv q => ⟨v, H', J.os, J.bare, J.base, J.hok, rv, q⟩
  match fl, hs with
  | .ret u, ⟨v, σ', H', J, rv, q⟩ => exact fin J rv q
  | .next, ⟨σ', H', J, q⟩ => exact fin (v := V.non) (u := Value.none) J rfl q
  | .brk, ⟨_, _, _, q⟩ => exact False.elim q
  | .cont, ⟨_, _, _, q⟩ => exact False.elim q
/-- a promise told otherwise -/
theorem FnG.imp {k : Nat} {f : Addr} {fd : FuncData} {ps : List Str} {wf wf' : WF} (F : FnG P w K mg base k f fd ps wf) (h : ∀ Z ds R, ds.length = ps.length → wf' Z ds R → wf Z ds R) : FnG P w K mg base k f fd ps wf' :=
  fun A outer s H args us vs ds W R Z Q E hg hr e0 hbd r hlen al da hwf hQ hE => F A outer s H args us vs ds W R Z Q E hg hr e0 hbd r hlen al da (h Z ds R hlen hwf) hQ hE
theorem FnG.mono {j k : Nat} {f : Addr} {fd : FuncData} {ps : List Str} {wf : WF} (F : FnG P w K mg base j f fd ps wf) (h : j ≤ k) : FnG P w K mg base k f fd ps wf :=
  fun A outer s H args us vs ds W R Z Q E hg hr => F A outer s H args us vs ds W R Z Q E hg (hr.mono h)
end
/-! ### calls -/
section
variable {X : Cx} {G : Gx} {T : WX} {k j : Nat} {f : Addr} {fd : FuncData} {ps : List Str} {wf : WF}
theorem run_g {pins : List (Addr × Obj)} {σ : L2.St} {ρ : Rho} {W : Wd} {H : Hp} {s : Shared} {args : Args} {us : List Value} {vs : List V} {ds : List D} {R : S → Prop} {Z : Exn → Prop} {Q : VK} (C : CxG X T k) (F : FnG X.prog X.w X.K X.mg X.base j f fd ps wf) (hj : j ≤ k)
    (hb : BindsTo s fd args (ps.zip us)) (I : Inv X pins σ H s) (r : Vals vs us) (hl : ds.length = ps.length) (ok : Ok X.K G W ρ σ H) (da : DnA X.K W H ds vs) (h : wf Z ds R)
    (hR : ∀ d W' x H', R d → Go X.K G σ ρ W H ρ W' H' → Res X.K H W' H' d x → Q x H') (hZ : ∀ x W' H' c dx, Z x → Go X.K G σ ρ W H ρ W' H' → ExAt X.K W' H' x c dx → T c dx σ H') :
    codeAny (model X.prog X.w) X.A (.call (.ref f) args) (fun r s' => match r with | .ok (.ret u) => EP X pins σ Q u s' | .ok _ => False | .error e => X.xe e s') s := by
  refine codeAny_mono (F X.A X.stack s H args us vs ds W R Z Q (fun c dx H' => T c dx σ H') C.gd (C.rm.mono hj) I.env0 hb r hl ok.al da h
    (fun d W' x H' hr rt => hR d W' x H' hr (ok.grow rt.stp rt.al) rt.res) fun x W' H' c dx hz rt => hZ x W' H' c dx hz (ok.grow rt.stp rt.al) rt.ex) fun r s' hq => ?_
  match r, hq with
  | .error e, hq => exact C.tk e s' (XE.of_call (W := T) I (fun _ _ _ q => q) hq)
  | .ok (.ret u), hq => exact I.after hq
/-- f(..): the arguments, then the def -/
def wCall (n : Nat) (wf : WF) (u : WA) : WE := fun Z ρ R => u Z ρ fun ds ρ1 => ds.length = n ∧ wf (fun x => Z x ρ1) ds fun s => R s ρ1
theorem wp_call {pins : List (Addr × Obj)} {σ : L2.St} {H : Hp} {s : Shared} {Q : VK} {us : List Value} {vs : List V} {W : Wd} {ρ : Rho} {ds : List D} {R : S → Prop} {Z : Exn → Prop} (C : CxG X T k) (F : FnG X.prog X.w X.K X.mg X.base j f fd ps wf) (hj : j ≤ k) (hb : Binds X.K fd ps [])
    (I : Inv X pins σ H s) (r : Vals vs us) (hl : ds.length = ps.length) (ok : Ok X.K G W ρ σ H) (da : DnA X.K W H ds vs) (h : wf Z ds R)
    (hR : ∀ d W' x H', R d → Go X.K G σ ρ W H ρ W' H' → Res X.K H W' H' d x → Q x H') (hZ : ∀ x W' H' c dx, Z x → Go X.K G σ ρ W H ρ W' H' → ExAt X.K W' H' x c dx → T c dx σ H') :
    wpAny (model X.prog X.w) X.A (call (.ref f) us) (EP X pins σ Q) X.xe s := by
  have e : (us ++ ([] : List Value)).length = ps.length := by rw [List.append_nil, ← r.length, ← da.length]; exact hl
  have hb' := hb s us I.kIn e
  rw [List.append_nil] at hb'
  refine wpAny_call (codeAny_mono (run_g C F hj hb' I r hl ok da h hR hZ) fun r s' hq => ?_)
  match r, hq with
  | .error e, hq => exact hq
  | .ok (.ret u), hq => exact hq
theorem de_call {x : Str} {p pos : Pos} {e : Expr} {es : List Expr} {u : WA} (C : CxG X T k) (F : FnG X.prog X.w X.K X.mg X.base j f fd ps wf) (hj : j ≤ k) (hm : X.mg x = some (.ref f)) (hk : PySem.W.keepIn X.K (.ref f) = true) (hb : Binds X.K fd ps [])
    (ha : DA X G T (e :: es) u) (hg : Gl X x := by rfl) (hdb : (x == ("__debug__" : Str)) = false := by decide) (he : starEach (e :: es) X.env = (false, eval e X.env) :: starEach es X.env := by rfl) (hpl : (backTo pos (starEach es X.env)).any (·.1) = false := by rfl) :
    DE X G T (.Call (.Name x p) (e :: es) [] pos) (wCall ps.length wf u) := by
  refine ⟨fun pins s σ H Q I ⟨W, ρ, R, Z, ok, h, hR, hZ⟩ => ?_⟩
  refine wpAny_Call_Name_kw (ld_glob I hg hm ?_ hdb)
  have args : lA X.K G T u σ H fun vs H1 => ∃ ds W1 ρ1, Go X.K G σ ρ W H ρ1 W1 H1 ∧ DnA X.K W1 H1 ds vs ∧ ds.length = ps.length ∧ wf (fun x => Z x ρ1) ds fun s => R s ρ1 :=
    ⟨W, ρ, _, Z, ok, h, fun ds ρ1 W1 xs H1 ⟨h1, h2⟩ g d => ⟨ds, W1, ρ1, g, d, h1, h2⟩, hZ⟩
  refine PySem.W.callWith_K (h₀ := X.base) I.ok.mod.kin hk (thn (ha.run pos pins s σ H _ I args) fun us s1 ⟨vs, H1, I1, r, ds, W1, ρ1, g, d, h1, h2⟩ => ⟨I1.kIn, ?_⟩) he hpl
  exact wp_call C F hj hb I1 r h1 g.ok d h2 (fun d W' x H' hr g' rs => hR d ρ1 W' x H' hr (g.trans g') (rs.up g.stp.up)) fun x W' H' c dx hz g' ex => hZ x ρ1 W' H' c dx hz (g.trans g') ex
theorem de_call0 {x : Str} {p pos : Pos} (C : CxG X T k) (F : FnG X.prog X.w X.K X.mg X.base j f fd [] wf) (hj : j ≤ k) (hm : X.mg x = some (.ref f)) (hk : PySem.W.keepIn X.K (.ref f) = true) (hb : Binds X.K fd [] [])
    (hg : Gl X x := by rfl) (hdb : (x == ("__debug__" : Str)) = false := by decide) : DE X G T (.Call (.Name x p) [] [] pos) (wCall 0 wf wNil) := by
  refine ⟨fun pins s σ H Q I ⟨W, ρ, R, Z, ok, h, hR, hZ⟩ => ?_⟩
  refine wpAny_Call_Name_kw (ld_glob I hg hm ?_ hdb)
  exact PySem.W.callWith_K0 I.kIn hk (wp_call (us := []) (ds := []) C F hj hb I .nil rfl ok .nil h.2 (fun d W' x H' hr g' rs => hR d ρ W' x H' hr g' rs) fun x W' H' c dx hz g' ex => hZ x ρ W' H' c dx hz g' ex)
end
/-! ### the law -/
open PyProof.Rows in
theorem law_g {P : Program} {w : World} {K : PySem.W.Frag} {mg mb : Str → Option Value} {k : Nat} {fa a : Addr} {fd : FuncData} {x : Str} {wf : WF} {t0 : Shared} {vs : List Value} {ns : List Int}
    (KX : K.In t0.heap) (hns : t0.heap.Ns mainGlobals mg) (hb : t0.heap.Ns builtinsNs mb) (hbb : ∀ x : Str, x ≠ "__name__" → mb x = bootBuiltins x) (hlim : t0.heap.NoLimit) (hg : t0.gens = #[])
    (ha : t0.heap.get? a = some { cls := .type "list", data := .seq vs.toArray }) (hi : IntsAre vs ns) (hl : ns.length ≤ sizeLine) (hr : Room k callerA)
    (F : ∀ base : Heap, K.In base → base.Ns mainGlobals mg → FnG P w K mg base k fa fd [x] wf) (hbind : ∀ (s : Shared) (u : Value), BindsTo s fd ⟨[u], []⟩ [(x, u)])
    (hwf : wf (fun _ => False) [.rls (ns.map .int)] fun s => s = .d (.bl true)) :
    codeAny (model P w) callerA (.call (.ref fa) ⟨[.ref a], []⟩) (fun r s' => r = .ok (.ret (.bool true)) ∧ OldK t0.heap s'.heap ∧ s'.os = t0.os ∧ AllBare s'.gens) t0 := by
  have rv := vals_ints hi
  have lenV := hi.length
  -- the heap in which the script alone may be told
  have main : ∀ (H : Hp) (W : Wd), Only H → Al W H → SeqL K W H a (ns.map V.int) → HOk P w H t0.heap → (∀ b, H b ≠ none → b = a) → (H a ≠ none → K.lookup a = none) →
      codeAny (model P w) callerA (.call (.ref fa) ⟨[.ref a], []⟩) (fun r s' => r = .ok (.ret (.bool true)) ∧ OldK t0.heap s'.heap ∧ s'.os = t0.os ∧ AllBare s'.gens) t0 := by
    intro H W only al sq hok isA noK
    have far : ∀ {b : Addr} {u : HO}, H b = some u → b = a := fun {b u} q => isA b (by rw [q]; intro z; cases z)
    have dictFree : ∀ {b : Addr} {o : Obj} {es : Array DictEntry} {ep : Nat}, t0.heap.get? b = some o → o.data = .dict es ep → H b = none := fun {b o es ep} e d => by
      cases q : H b with
      | none => rfl
      | some u =>
        obtain rfl := far q
        rw [ha] at e; cases e
        cases (show Data.seq vs.toArray _ = Data.dict es ep from d)
    have nsK : ∀ {b : Addr} {m : Str → Option Value}, t0.heap.Ns b m → (hidT t0.heap H).Ns b m := fun {b m} ⟨o, es, ep, e, d, rr⟩ => ⟨o, es, ep, hidT_get e (dictFree e d), d, rr⟩
    have kin : K.In (hidT t0.heap H) := fun b o e => hidT_get (KX b o e) (by
      cases q : H b with
      | none => rfl
      | some u =>
        obtain rfl := far q
        rw [noK (by rw [q]; intro z; cases z)] at e; cases e)
    have M : Mod K mg (hidT t0.heap H) := ⟨kin, nsK hns, ⟨mb, nsK hb, hbb⟩, let ⟨mc, h1, h2⟩ := hlim; ⟨mc, nsK h1, h2⟩⟩
    have env : Env0 P w K mg (hidT t0.heap H) callerA [] t0 H := ⟨rfl, M, fun b o e => of_hidT e, Nat.le_of_eq (hidT_size _ _), trivial, fun b hb => absurd (show b ∈ ([] : List Addr) from hb) (by simp), hok, .of_eq hg⟩
    refine codeAny_mono (F _ kin (nsK hns) callerA [] t0 H ⟨[.ref a], []⟩ [.ref a] [.ref a] [.rls (ns.map .int)] W _ _ (fun v _ => v = .bl true) (fun _ _ _ => False) rfl hr env (hbind t0 (.ref a)) (.cons rfl .nil) rfl al
      (.cons (.rls sq (.of_int ns)) .nil) hwf (fun d W' y H' e rt => ?_) fun _ _ _ _ _ q => q.elim) fun r s' h => ?_
    · subst e
      have q : Dn K W' H' (.bl true) y := rt.res.rs
      cases q
      rfl
    · match r, h with
      | .error e, h => obtain ⟨_, _, _, _, _, _, _, _, _, _, _, _, z⟩ := h; exact z.elim
      | .ok (.ret u), ⟨v, H', os, bare, un, hok', rr, q⟩ =>
        subst q
        obtain rfl : u = Value.bool true := rr
        refine ⟨rfl, OldK.of_keep fun b o e => ?_, os, bare⟩
        cases q : H b with
        | none => exact un.keep b o e q (by intro z; exact absurd (show b ∈ ([] : List Addr) from z) (by simp)) (by simp)
        | some u =>
          rcases only b with z | ⟨ob, xs, z⟩
          · rw [q] at z; cases z
          · obtain ⟨e1, _⟩ := hok b _ z
            obtain ⟨e2, _⟩ := hok' b _ (un.frzs b ob _ z)
            rw [e] at e1; cases e1
            exact e2
  cases hk : K.lookup a with
  | some o =>
    have e := KX a o hk
    rw [ha] at e
    cases e
    refine main (fun _ => none) ⟨fun _ => False, fun _ => False⟩ (fun _ => .inl rfl) ⟨fun _ q => q.elim, fun _ q => q.elim, fun _ q => q.elim⟩ (.inr ⟨_, vs.toArray, _, hk, rfl, rfl, rfl, by rw [List.size_toArray, lenV]; exact hl, by simpa using rv⟩) (fun b u z => by cases (show (none : Option HO) = some u from z)) (fun b z => absurd rfl z) fun z => absurd rfl z
  | none =>
    refine main (fun b => if b = a then some (.frz { cls := .type "list", data := .seq vs.toArray } (.lst (ns.map V.int))) else none) ⟨fun b => b = a, fun _ => False⟩ (fun b => ?_) ⟨fun b q => ⟨_, if_pos q⟩, fun _ q => q.elim, fun _ q => q.elim⟩ (.inl ⟨rfl, .inr ⟨{ cls := .type "list", data := .seq vs.toArray }, if_pos rfl⟩⟩) (fun b u z => ?_) (fun b z => ?_) fun _ => hk
    · by_cases q : b = a
      · exact .inr ⟨_, _, if_pos q⟩
      · exact .inl (if_neg q)
    · by_cases q : b = a
      · cases (if_pos q).symm.trans z
        subst q
        exact ⟨ha, by rw [List.length_map]; exact hl, vs, _, rv, ha⟩
      · cases (if_neg q).symm.trans z
    · by_cases q : b = a
      · exact q
      · exact absurd (if_neg q) z
open PyProof.Rows in
/-- the goal that k_head leaves -/
theorem walk_g {l : PySem.W.OpenLaw} {n k : Nat} {q : Program} {loose : List Str} {XP : (Str → Option Value) → Heap → Prop} {YP : World → Heap → Prop} {d : DefRec} {K : Params → PySem.W.Frag} {wf : WF} {x : Str}
    (hn : l.most = some n) (hn2 : n ≤ sizeLine) (hdf : d.params.defaults = []) (hr : Room k callerA) (hY : ∀ (w : World) (h : Heap), YP w h → (K w.params).In h)
    (F : ∀ (w : World) (mg : Str → Option Value) (fa : Addr) (h : Heap), (K w.params).In h → h.Ns mainGlobals mg → mg d.name = some (.ref fa) →
      ∃ fd : FuncData, (∀ (s : Shared) (u : Value), BindsTo s fd ⟨[u], []⟩ [(x, u)]) ∧ ∀ base : Heap, (K w.params).In base → base.Ns mainGlobals mg → FnG l.prog w (K w.params) mg base k fa fd [x] wf)
    (hwf : ∀ ns : List Int, ns.length ≤ n → wf (fun _ => False) [.rls (ns.map .int)] fun s => s = .d (.bl true)) : PySem.W.WalkO q loose XP YP l.row.toRowW d [] (fun f vs => PySem.call f vs) := by
  refine Att.attach_call hn hdf fun w s₀ t0 mg mb fa o pm cd doc a vs ns Gr Y ho hd hcd hmg hobj hints hlen hg => ?_
  obtain ⟨fd, hb, hF⟩ := F w mg fa _ (hY w _ Y) Gr.T.g hmg
  exact law_g (hY w _ Y) Gr.T.g Gr.T.b Gr.T.builtins Gr.T.nolimit hg hobj hints (Nat.le_trans hlen hn2) hr hF hb (hwf ns hlen)
end DL

/-! DL5: own lists, own dicts and jars in slots: read without being frozen, changed. -/
namespace DL
open PySem PySem.Spec L2
section
variable {K : PySem.W.Frag} {G : Gx} {T : WX} {σ : L2.St} {ρ ρ1 : Rho} {W W1 : Wd} {H H1 : Hp}
/-- what slot i denotes now -/
theorem Ok.look (ok : Ok K G W ρ σ H) {i : Nat} {s : S} (h : ρ[i]? = some (some s)) : ∃ x W', σ[i]? = some (some x) ∧ Dn K W' H s.frz x ∧ Rs K W H s x := by
  obtain ⟨x, W2, e, g, d⟩ := ok.freezeSlot h
  obtain ⟨y, e2, r⟩ := ok.val i s h
  rw [e] at e2; cases e2
  exact ⟨x, W2, e, d, r⟩
theorem Dn.up_items {W W' : Wd} {d : D} {x : V} {ds : List D} (h : Dn K W' H d x) (e : d.items = some ds) : ∃ p vs, x = .ref p ∧ (SqL K H p vs ∨ SqT K H p vs) ∧ ds.length = vs.length := by
  obtain ⟨p, vs, a, b, c⟩ := h.seq e
  exact ⟨p, vs, a, b, c.length⟩
/-- the items of a slot's list or tuple, told in the world as it is -/
theorem Rs.seq {s : S} {x : V} {ds : List D} (h : Rs K W H s x) (e : s.frz.items = some ds) : ∃ p vs, x = .ref p ∧ (SqL K H p vs ∨ SqT K H p vs) ∧ DnA K W H ds vs := by
  cases s with
  | d d => exact Dn.seq (K := K) h e
  | own es => cases e; obtain ⟨p, vs, a, b, c⟩ := h; exact ⟨p, vs, a, .inl (SqL.of b), c⟩
  | odic es => cases e
/-- an own object is written in its slot -/
theorem Ok.wslot (ok : Ok K G W ρ σ H) {i : Nat} {s s' : S} {p : Addr} {o : HO} (h : ρ[i]? = some (some s)) (e : σ[i]? = some (some (.ref p))) (hs : s.isOwn = true) (hs' : s'.isOwn = true) (hr : Rs K W (upd H p o) s' (.ref p)) :
    Go K G σ ρ W H (ρ.set i (some s')) W (upd H p o) := by
  have hO : Ow ρ σ p := ⟨i, s, h, hs, e⟩
  obtain ⟨nf, nj, h0⟩ := ok.frs p hO
  obtain ⟨u, hu⟩ := ok.here hO
  have l : Le W H W (upd H p o) := ⟨fun _ h => h, fun _ h => h, fun a q => upd_ne fun z => nf (by rw [← z]; exact q)⟩
  have hi : i < ρ.length := (List.getElem?_eq_some_iff.mp h).1
  have sub : ∀ a, Ow (ρ.set i (some s')) σ a → Ow ρ σ a := fun a ⟨j, d, d1, d2, d3⟩ => by
    rcases set_get d1 with ⟨z1, z2⟩ | ⟨z1, z2⟩
    · subst z1; rw [e] at d3; cases d3; exact hO
    · exact ⟨j, d, z2, d2, d3⟩
  have al : Al W (upd H p o) := ⟨fun a q => by rw [l.k a q]; exact ok.al.f a q, fun a q => by
    obtain ⟨x, y, z, e1, b⟩ := ok.al.j a q
    exact ⟨x, y, z, by rw [upd_ne fun z => nj (by rw [← z]; exact q)]; exact e1, b⟩, ok.al.d⟩
  have up : ∀ a, upd H p o a = none → H a = none := fun a q => by
    by_cases z : a = p
    · subst z; rw [upd_same] at q; cases q
    · rwa [upd_ne z] at q
  refine ⟨⟨by rw [ok.len, List.length_set], fun j d hj => ?_, fun a q => ok.frs a (sub a q), fun j m d d' a h1 h2 o1 o2 s1 s2 => ?_, al, ⟨ok.en.le.trans l, ok.en.nF, ok.en.nJ, fun a v hv nj' no => ?_, fun a q => ok.en.up a (up a q)⟩⟩, ⟨l, fun _ q => .inl q, fun _ q => .inl q, fun a v hv nj' no => ?_, up⟩, sub⟩
  · rcases set_get hj with ⟨z1, z2⟩ | ⟨z1, z2⟩
    · cases z2; subst z1; exact ⟨_, e, hr⟩
    · obtain ⟨y, e1, e2⟩ := ok.val j d z2
      refine ⟨y, e1, e2.le l fun od q eq => upd_ne fun z => z1 ?_⟩
      subst eq z
      exact ok.inj i j s d q h z2 hs od e e1
  · rcases set_get h1 with ⟨z1, z2⟩ | ⟨z1, z2⟩
    · subst z1; cases z2; rw [e] at s1; cases s1
      rcases set_get h2 with ⟨y1, y2⟩ | ⟨y1, y2⟩
      · exact y1
      · exact ok.inj i m s d' p h y2 hs o2 e s2
    · rcases set_get h2 with ⟨y1, y2⟩ | ⟨y1, y2⟩
      · subst y1; cases y2; rw [e] at s2; cases s2
        exact ok.inj j i d s p z2 h o1 hs s1 e
      · exact ok.inj j m d d' a z2 y2 o1 o2 s1 s2
  · rw [upd_ne (ne_of_none hv h0)]; exact ok.en.st a v hv nj' no
  · rw [upd_ne fun z => no (by rw [z]; exact hO)]; exact hv
/-- a jar is written -/
theorem Ok.wjar (ok : Ok K G W ρ σ H) {p : Addr} {x y z : Int} (h : W.J p) (b : -(2 ^ 40) < y ∧ y < 2 ^ 40) : Go K G σ ρ W H ρ W (upd H p (.lst [.int x, .int y, .int z])) := by
  obtain ⟨x0, y0, z0, e0, _⟩ := ok.al.j p h
  refine ok.grow ⟨⟨fun _ h => h, fun _ h => h, fun a q => upd_ne fun z => ok.al.d p h (by rw [← z]; exact q)⟩, fun _ q => .inl q, fun _ q => .inl q, fun a v hv nj _ => by rw [upd_ne (fun z => nj (by rw [z]; exact h))]; exact hv, fun a q => ?_⟩ ⟨fun a q => ?_, fun a q => ?_, ok.al.d⟩
  · by_cases z : a = p
    · subst z; rw [upd_same] at q; cases q
    · rwa [upd_ne z] at q
  · rw [upd_ne fun z => ok.al.d p h (by rw [← z]; exact q)]; exact ok.al.f a q
  · by_cases w : a = p
    · subst w; exact ⟨x, y, z, upd_same, b⟩
    · obtain ⟨x1, y1, z1, e1, b1⟩ := ok.al.j a q
      exact ⟨x1, y1, z1, by rw [upd_ne w]; exact e1, b1⟩
end
section
variable {X : Cx} {G : Gx} {T : WX} {a b c e : Expr} {w wa wb : WE} {pos p apos cpos : Pos} {i : Nat}
/-! ### x[k], x a slot -/
def wIxV (i : Nat) (wk : WE) : WE := fun Z ρ R => (∃ s0, ρ[i]? = some (some s0)) ∧ wk Z ρ fun k ρ1 => match ρ1[i]? with
  | some (some s) => fIx s.frz k.frz fun z => R z ρ1
  | _ => False
theorem de_ixV (i : Nat) {x : Str} (hb : DE X G T b wb) (hN : X.N[i]? = some x := by rfl) (hv : Vis X.env.scope x := by first | exact Or.inl rfl | exact Or.inr (Or.inl rfl) | exact Or.inr (Or.inr rfl)) (hd : (x == ("__debug__" : Str)) = false := by decide)
    (hcd : (x == ("__classdict__" : Str)) = false := by decide) (hs : PlainIx b := by intro _ _; rfl) : DE X G T (.Subscript (.Name x p) b pos) (wIxV i wb) :=
  pe_weak (pe_ix ix_seq (pv i hN hv hd hcd) hb hs) fun σ H Q ⟨W, ρ, R, Z, ok, ⟨⟨s0, e0⟩, h⟩, hR, hZ⟩ => by
    obtain ⟨x, _, ex, _⟩ := ok.look e0
    refine ⟨x, ex, ?_⟩
    refine lE_then (R := fun k ρ1 => match ρ1[i]? with | some (some s) => fIx s.frz k fun z => R z ρ1 | _ => False) ok h hZ fun k ρ1 W1 y H1 h1 g1 d1 => ?_
    split at h1
    · rename_i s e1
      obtain ⟨x', e2, r⟩ := g1.ok.val i s e1
      rw [ex] at e2; cases e2
      cases s with
      | d d => exact od_ix G W1 ρ1 σ H1 d k x y _ Q g1.ok r d1 h1 fun z W' v H' hz g2 r2 => hR z ρ1 W' v H' hz (g1.trans g2) (r2.up g1.stp.up)
      | own es =>
        obtain ⟨q, vs, rfl, hq, da⟩ := r
        cases d1 <;> first | exact h1.elim | skip
        rename_i j
        obtain ⟨es', z, f1, f2, f3⟩ := h1
        cases f1
        obtain ⟨v, e3, e4⟩ := da.atI f2
        exact .inl ⟨q, vs, j, v, rfl, rfl, SqL.of hq, e3, hR _ ρ1 W1 v H1 f3 g1 (.of e4)⟩
      | odic es => cases d1 <;> first | exact h1.elim | (obtain ⟨_, _, f1, _⟩ := h1; cases f1)
    · exact h1.elim
/-! ### len(x), x a slot -/
def wLenV (i : Nat) : WE := fun _ ρ R => match ρ[i]? with
  | some (some s) => fLen [s.frz] fun z => R z ρ
  | _ => False
theorem de_lenV (i : Nat) {x : Str} (hg : Gl X "len") (hm : X.mg "len" = none) (hN : X.N[i]? = some x := by rfl) (hv : Vis X.env.scope x := by first | exact Or.inl rfl | exact Or.inr (Or.inl rfl) | exact Or.inr (Or.inr rfl)) (hd : (x == ("__debug__" : Str)) = false := by decide)
    (hcd : (x == ("__classdict__" : Str)) = false := by decide) (hst : starEach [.Name x pos] X.env = (false, eval (.Name x pos) X.env) :: starEach [] X.env := by rfl) : DE X G T (.Call (.Name "len" p) [.Name x pos] [] cpos) (wLenV i) :=
  pe_weak (pe_callB call_len hg hm PySem.boot_len (pa_cons (pv i hN hv hd hcd) pa_nil hst) (by decide) (by decide) hst rfl) fun σ H Q ⟨W, ρ, R, Z, ok, h, hR, hZ⟩ => by
    unfold wLenV at h
    split at h
    · rename_i s e
      obtain ⟨x, W', ex, d, r⟩ := ok.look e
      refine ⟨x, ex, ?_⟩
      have rs : ∀ es, s.frz.items = some es → ∃ p vs, x = .ref p ∧ (SqL X.K H p vs ∨ SqT X.K H p vs) ∧ DnA X.K W H es vs := fun es q => r.seq q
      generalize s.frz = dd at d h rs
      cases d with
      | str z => exact ⟨_, _, rfl, ⟨h.1, rfl⟩, hR _ _ _ _ _ h.2 (.refl ok) (.of (.int _))⟩
      | _ =>
        obtain ⟨es, e1, e2⟩ := flen_items h fun s q => by cases q
        obtain ⟨q, vs, e3, sq, da⟩ := rs _ e1
        first
          | (cases e3; done)
          | (cases e3
             exact ⟨_, es.length, rfl, sq.imp (fun sq => ⟨_, sq, da.length⟩) (fun sq => ⟨_, sq, da.length⟩), hR _ _ _ _ _ e2 (.refl ok) (.of (.int _))⟩)
    · exact h.elim
/-! ### pure tests with a slot on the left (right) -/
/-- an operation that makes nothing -/
def OpP (K : PySem.W.Frag) (r : R2) (f : D → D → (S → Prop) → Prop) : Prop :=
  ∀ (W : Wd) (H : Hp) (d e : D) (x y : V) (R : S → Prop) (Q : VK), Dn K W H d x → Dn K W H e y → f d e R → (∀ b : Bool, R (.d (.bl b)) → Q (.bl b) H) → r x y H Q
theorem op_p_eq {K : PySem.W.Frag} : OpP K (rEqA K) fEq := by
  intro W H d e x y R Q h g ⟨f, r⟩ k
  rcases Bool.or_eq_true _ _ |>.mp f with o | o
  · obtain ⟨a, b⟩ := scal_of h g o
    exact .inl ⟨a, by rw [b]; exact k _ r⟩
  · simp only [D.okEq, Bool.and_eq_true] at o
    exact .inr ⟨_, _, h.dp o.1.1, g.dp o.2.1, o.1.2, o.2.2, k _ r⟩
theorem op_p_ne {K : PySem.W.Frag} : OpP K (rNeA K) fNe := by
  intro W H d e x y R Q h g ⟨f, r⟩ k
  rcases Bool.or_eq_true _ _ |>.mp f with o | o
  · obtain ⟨a, b⟩ := scal_of h g o
    exact .inl ⟨a, by rw [b]; exact k _ r⟩
  · simp only [D.okEq, Bool.and_eq_true] at o
    exact .inr ⟨_, _, h.dp o.1.1, g.dp o.2.1, o.1.2, o.2.2, k _ r⟩
theorem op_p_in {K : PySem.W.Frag} : OpP K (rIn K false) fIn := by
  intro W H d e x y R Q h h' ⟨ds, f1, f2, f3, f4⟩ k
  obtain ⟨p, vs, rfl, s, a⟩ := h'.seq f1
  refine ⟨p, vs, rfl, s, h.flat f2, a.flat f3, ?_⟩
  simp only [if_neg Bool.false_ne_true]
  rw [DnA.inV h f2 a f3]
  exact k _ f4
theorem op_p_nin {K : PySem.W.Frag} : OpP K (rIn K true) fNin := by
  intro W H d e x y R Q h h' ⟨ds, f1, f2, f3, f4⟩ k
  obtain ⟨p, vs, rfl, s, a⟩ := h'.seq f1
  refine ⟨p, vs, rfl, s, h.flat f2, a.flat f3, ?_⟩
  simp only [if_true]
  rw [DnA.inV h f2 a f3]
  exact k _ f4
def wOpV (i : Nat) (f : D → D → (S → Prop) → Prop) (wb : WE) : WE := fun Z ρ R => (∃ s0, ρ[i]? = some (some s0)) ∧ wb Z ρ fun y ρ1 => match ρ1[i]? with
  | some (some s) => f s.frz y.frz fun z => R z ρ1
  | _ => False
def wOpW (wa : WE) (i : Nat) (f : D → D → (S → Prop) → Prop) : WE := fun Z ρ R => wa Z ρ fun x ρ1 => match ρ1[i]? with
  | some (some s) => f x.frz s.frz fun z => R z ρ1
  | _ => False
theorem lE_opV {K : PySem.W.Frag} {r : R2} {f : D → D → (S → Prop) → Prop} (hp : OpP K r f) {σ : L2.St} {H : Hp} {Q : VK} (h : lE K G T (wOpV i f wb) σ H Q) : tOp r (tVar i) (lE K G T wb) σ H Q := by
  obtain ⟨W, ρ, R, Z, ok, ⟨⟨s0, e0⟩, h⟩, hR, hZ⟩ := h
  obtain ⟨x, _, ex, _⟩ := ok.look e0
  refine ⟨x, ex, ?_⟩
  refine lE_then (R := fun k ρ1 => match ρ1[i]? with | some (some s) => f s.frz k fun z => R z ρ1 | _ => False) ok h hZ fun k ρ1 W1 y H1 h1 g1 d1 => ?_
  split at h1
  · rename_i s e1
    obtain ⟨x', W2, e2, g2, d2⟩ := g1.ok.freezeSlot e1
    rw [ex] at e2; cases e2
    exact hp W2 H1 _ _ x y _ Q d2 (d1.le g2.stp.le) h1 fun b hb => hR _ ρ1 W1 _ H1 hb g1 (.of (.bl b))
  · exact h1.elim
theorem lE_opW {K : PySem.W.Frag} {r : R2} {f : D → D → (S → Prop) → Prop} (hp : OpP K r f) {σ : L2.St} {H : Hp} {Q : VK} (h : lE K G T (wOpW wa i f) σ H Q) : tOp r (lE K G T wa) (tVar i) σ H Q := by
  obtain ⟨W, ρ, R, Z, ok, h, hR, hZ⟩ := h
  refine lE_then (R := fun k ρ1 => match ρ1[i]? with | some (some s) => f k s.frz fun z => R z ρ1 | _ => False) ok h hZ fun k ρ1 W1 y H1 h1 g1 d1 => ?_
  split at h1
  · rename_i s e1
    obtain ⟨x', W2, e2, g2, d2⟩ := g1.ok.freezeSlot e1
    refine ⟨x', e2, ?_⟩
    exact hp W2 H1 _ _ y x' _ Q (d1.le g2.stp.le) d2 h1 fun b hb => hR _ ρ1 W1 _ H1 hb g1 (.of (.bl b))
  · exact h1.elim
theorem de_cmpV {op : CmpOp} {r : R2} {f : D → D → (S → Prop) → Prop} (i : Nat) {x : Str} (hr : OpR X (compareOp op) r) (ho : OpP X.K r f) (hb : DE X G T b wb) (hm : behindInMarks op b = false) (hN : X.N[i]? = some x := by rfl) (hv : Vis X.env.scope x := by first | exact Or.inl rfl | exact Or.inr (Or.inl rfl) | exact Or.inr (Or.inr rfl))
    (hd : (x == ("__debug__" : Str)) = false := by decide) (hcd : (x == ("__classdict__" : Str)) = false := by decide) : DE X G T (.Compare (.Name x p) [op] [b] pos) (wOpV i f wb) :=
  pe_weak (pe_cmpR hr (pv i hN hv hd hcd) hb hm) fun _ _ _ h => lE_opV ho h
theorem dt_cmpV {op : CmpOp} {r : R2} {f : D → D → (S → Prop) → Prop} (i : Nat) {x : Str} (hr : OpR X (compareOp op) r) (ho : OpP X.K r f) (hb : DE X G T b wb) (hm : behindInMarks op b = false) (hN : X.N[i]? = some x := by rfl) (hv : Vis X.env.scope x := by first | exact Or.inl rfl | exact Or.inr (Or.inl rfl) | exact Or.inr (Or.inr rfl))
    (hd : (x == ("__debug__" : Str)) = false := by decide) (hcd : (x == ("__classdict__" : Str)) = false := by decide) : DT X G T (.Compare (.Name x p) [op] [b] pos) (wB (wOpV i f wb)) :=
  pt_weak (pt_cmpR hr (pv i hN hv hd hcd) hb hm) fun _ _ _ h => lT_B (fun _ q => lE_opV ho q) h
theorem de_cmpW {op : CmpOp} {r : R2} {f : D → D → (S → Prop) → Prop} (i : Nat) {x : Str} (hr : OpR X (compareOp op) r) (ho : OpP X.K r f) (ha : DE X G T a wa) (hm : behindInMarks op (.Name x p) = false) (hN : X.N[i]? = some x := by rfl) (hv : Vis X.env.scope x := by first | exact Or.inl rfl | exact Or.inr (Or.inl rfl) | exact Or.inr (Or.inr rfl))
    (hd : (x == ("__debug__" : Str)) = false := by decide) (hcd : (x == ("__classdict__" : Str)) = false := by decide) : DE X G T (.Compare a [op] [.Name x p] pos) (wOpW wa i f) :=
  pe_weak (pe_cmpR hr ha (pv i hN hv hd hcd) hm) fun _ _ _ h => lE_opW ho h
theorem dt_cmpW {op : CmpOp} {r : R2} {f : D → D → (S → Prop) → Prop} (i : Nat) {x : Str} (hr : OpR X (compareOp op) r) (ho : OpP X.K r f) (ha : DE X G T a wa) (hm : behindInMarks op (.Name x p) = false) (hN : X.N[i]? = some x := by rfl) (hv : Vis X.env.scope x := by first | exact Or.inl rfl | exact Or.inr (Or.inl rfl) | exact Or.inr (Or.inr rfl))
    (hd : (x == ("__debug__" : Str)) = false := by decide) (hcd : (x == ("__classdict__" : Str)) = false := by decide) : DT X G T (.Compare a [op] [.Name x p] pos) (wB (wOpW wa i f)) :=
  pt_weak (pt_cmpR hr ha (pv i hN hv hd hcd) hm) fun _ _ _ h => lT_B (fun _ q => lE_opW ho q) h
/-! ### x.append(e) -/
def wApp (i : Nat) (w : WE) : WS := fun E ρ => (∃ d0, ρ[i]? = some (some (.own d0))) ∧ w E.ex ρ fun d ρ1 => match ρ1[i]? with
  | some (some (.own ds)) => ds.length < sizeLine ∧ E.nx (ρ1.set i (some (.own (ds ++ [d.frz]))))
  | _ => False
def wExt (i : Nat) (w : WE) : WS := fun E ρ => (∃ d0, ρ[i]? = some (some (.own d0))) ∧ w E.ex ρ fun d ρ1 => match ρ1[i]?, d.frz with
  | some (some (.own ds)), .lst es => ds.length + es.length ≤ sizeLine ∧ E.nx (ρ1.set i (some (.own (ds ++ es))))
  | _, _ => False
section
variable {x : Str} (hN : X.N[i]? = some x := by rfl) (hv : Vis X.env.scope x := by first | exact Or.inl rfl | exact Or.inr (Or.inl rfl) | exact Or.inr (Or.inr rfl)) (hd : (x == ("__debug__" : Str)) = false := by decide) (hcd : (x == ("__classdict__" : Str)) = false := by decide)
theorem ds_app (i : Nat) (he : DE X G T e w) (hN : X.N[i]? = some x := by rfl) (hv : Vis X.env.scope x := by first | exact Or.inl rfl | exact Or.inr (Or.inl rfl) | exact Or.inr (Or.inr rfl)) (hd : (x == ("__debug__" : Str)) = false := by decide) (hcd : (x == ("__classdict__" : Str)) = false := by decide)
    (hst : starEach [e] X.env = (false, eval e X.env) :: starEach [] X.env := by rfl)
    (hbase : attributeBase (.Name x p) "append" X.env (eval (.Name x p) X.env) = eval (.Name x p) X.env := by rfl)
    (hfew : ((backTo cpos (starEach (e :: []) X.env)).all (fun x => !x.1) && (backToKw cpos (keywordEach [] X.env)).all (fun x => x.1.isSome) && decide ((e :: []).length + ([] : List Keyword).length + (if ([] : List Keyword).isEmpty then 0 else 1) < 30)) = true := by rfl)
    (hline : (apos.endLine == cpos.line) = true := by rfl) (hs : swapsWith (.Call (.Attribute (.Name x p) "append" apos) [e] [] cpos) none pos.line X.env = pure false := by rfl) :
    DS X G T (.Expr (.Call (.Attribute (.Name x p) "append" apos) [e] [] cpos) pos) (wApp i w) :=
  ps_weak (ps_expr (pe_bm PySem.F.plainAttrs_list PySem.F.slot_list_append PySem.F.type_list_append mt_append (pv i hN hv hd hcd) (pa_cons he pa_nil hst) hbase hfew hline hst rfl) hs) fun D σ H ⟨W, ρ, E, ok, ⟨⟨d0, e0⟩, h⟩, hn, hr, hb, hc, hx⟩ => by
    obtain ⟨y, ey, ⟨q, vs0, rfl, hq, _⟩⟩ := ok.val i _ e0
    refine ⟨_, ey, .inl ⟨rfl, vs0, SqL.of hq⟩, ?_⟩
    refine lE_then (R := fun d ρ1 => match ρ1[i]? with | some (some (.own ds)) => ds.length < sizeLine ∧ E.nx (ρ1.set i (some (.own (ds ++ [d])))) | _ => False) ok h (hx.z σ ρ) fun d ρ1 W1 x1 H1 h1 g1 d1 => ?_
    split at h1
    · rename_i ds e1
      obtain ⟨y1, ey1, ⟨q1, vs, rfl, hq1, da⟩⟩ := g1.ok.val i _ e1
      rw [ey] at ey1; cases ey1
      have nf := (g1.ok.frs q ⟨i, _, e1, rfl, ey⟩).1
      have l : Le W1 H1 W1 (upd H1 q (.lst (vs ++ [x1]))) := ⟨fun _ h => h, fun _ h => h, fun a z => upd_ne fun z2 => nf (by rw [← z2]; exact z)⟩
      have g2 := g1.ok.wslot (s' := .own (ds ++ [d])) (o := .lst (vs ++ [x1])) e1 ey rfl rfl ⟨q, _, rfl, upd_same, (da.append (.cons d1 .nil)).le l⟩
      exact ⟨q, vs, x1, rfl, rfl, hq1, by rw [← da.length]; exact h1.1, hn _ W1 σ _ h1.2 g2.ok (g1.stp.le.trans g2.stp.le)⟩
    · exact h1.elim
theorem ds_ext (i : Nat) (he : DE X G T e w) (hN : X.N[i]? = some x := by rfl) (hv : Vis X.env.scope x := by first | exact Or.inl rfl | exact Or.inr (Or.inl rfl) | exact Or.inr (Or.inr rfl)) (hd : (x == ("__debug__" : Str)) = false := by decide) (hcd : (x == ("__classdict__" : Str)) = false := by decide)
    (hst : starEach [e] X.env = (false, eval e X.env) :: starEach [] X.env := by rfl)
    (hbase : attributeBase (.Name x p) "extend" X.env (eval (.Name x p) X.env) = eval (.Name x p) X.env := by rfl)
    (hfew : ((backTo cpos (starEach (e :: []) X.env)).all (fun x => !x.1) && (backToKw cpos (keywordEach [] X.env)).all (fun x => x.1.isSome) && decide ((e :: []).length + ([] : List Keyword).length + (if ([] : List Keyword).isEmpty then 0 else 1) < 30)) = true := by rfl)
    (hline : (apos.endLine == cpos.line) = true := by rfl) (hs : swapsWith (.Call (.Attribute (.Name x p) "extend" apos) [e] [] cpos) none pos.line X.env = pure false := by rfl) :
    DS X G T (.Expr (.Call (.Attribute (.Name x p) "extend" apos) [e] [] cpos) pos) (wExt i w) :=
  ps_weak (ps_expr (pe_bm PySem.F.plainAttrs_list PySem.F.slot_list_extend PySem.F.type_list_extend mt_extend (pv i hN hv hd hcd) (pa_cons he pa_nil hst) hbase hfew hline hst rfl) hs) fun D σ H ⟨W, ρ, E, ok, ⟨⟨d0, e0⟩, h⟩, hn, hr, hb, hc, hx⟩ => by
    obtain ⟨y, ey, ⟨q, vs0, rfl, hq, _⟩⟩ := ok.val i _ e0
    refine ⟨_, ey, .inl ⟨rfl, vs0, SqL.of hq⟩, ?_⟩
    refine lE_then (R := fun d ρ1 => match ρ1[i]?, d with | some (some (.own ds)), .lst es => ds.length + es.length ≤ sizeLine ∧ E.nx (ρ1.set i (some (.own (ds ++ es)))) | _, _ => False) ok h (hx.z σ ρ) fun d ρ1 W1 x1 H1 h1 g1 d1 => ?_
    split at h1
    · rename_i ds es e1
      obtain ⟨y1, ey1, ⟨q1, vs, rfl, hq1, da⟩⟩ := g1.ok.val i _ e1
      rw [ey] at ey1; cases ey1
      have nf := (g1.ok.frs q ⟨i, _, e1, rfl, ey⟩).1
      cases d1 with
      | lst f2 f3 f4 =>
        rename_i a2 zs
        have l : Le W1 H1 W1 (upd H1 q (.lst (vs ++ zs))) := ⟨fun _ h => h, fun _ h => h, fun a z => upd_ne fun z2 => nf (by rw [← z2]; exact z)⟩
        have g2 := g1.ok.wslot (s' := .own (ds ++ es)) (o := .lst (vs ++ zs)) e1 ey rfl rfl ⟨q, _, rfl, upd_same, (da.append f4).le l⟩
        exact ⟨q, a2, vs, zs, rfl, rfl, hq1, f3, by rw [← da.length, ← f4.length]; exact h1.1, hn _ W1 σ _ h1.2 g2.ok (g1.stp.le.trans g2.stp.le)⟩
    · exact h1.elim
end
/-! ### x[k] = e, x a slot: an own list, a jar -/
def sIx (s : S) (k d : D) (N : S → Prop) : Prop := match s, k with
  | .own ds, .int j => ∃ n, ixN ds.length j = some n ∧ N (.own (ds.set n d))
  | .d .jar, .int j => (j = 0 ∨ j = 1 ∨ j = 2) ∧ (∃ n : Int, d = .int n ∧ (j = 1 → -(2 ^ 40) < n ∧ n < 2 ^ 40)) ∧ N (.d .jar)
  | _, _ => False
def wSetIx (i : Nat) (wk w : WE) : WS := fun E ρ => w E.ex ρ fun d ρ1 => (∃ s0, ρ1[i]? = some (some s0)) ∧ wk E.ex ρ1 fun k ρ2 => match ρ2[i]? with
  | some (some s) => sIx s k.frz d.frz fun s' => E.nx (if s.isOwn = true then ρ2.set i (some s') else ρ2)
  | _ => False
theorem ds_setIx (i : Nat) {x : Str} {idx : Expr} {wk : WE} {tpos : Pos} (he : DE X G T e w) (hk : DE X G T idx wk) (hN : X.N[i]? = some x := by rfl) (hv : Vis X.env.scope x := by first | exact Or.inl rfl | exact Or.inr (Or.inl rfl) | exact Or.inr (Or.inr rfl)) (hd : (x == ("__debug__" : Str)) = false := by decide) (hcd : (x == ("__classdict__" : Str)) = false := by decide)
    (ha : ∀ v, assign (.Subscript (.Name x p) idx tpos) X.env v = (do
      let ov ← holding [v] (eval (.Name x p) X.env)
      let iv ← holding [v, ov] (eval idx X.env)
      standAt tpos
      holding [v, ov, iv] (setItem ov iv v)
      release [v, ov, iv] []) := by intro _; rfl)
    (hs : swapsWithSole [.Subscript (.Name x p) idx tpos] e pos.line X.env = pure false := by rfl) (hw : swappedStores [.Subscript (.Name x p) idx tpos] e X.env = pure none := by rfl)
    (h1 : (assignEach [.Subscript (.Name x p) idx tpos] X.env).map (·.2) = [assign (.Subscript (.Name x p) idx tpos) X.env] := by rfl) :
    DS X G T (.Assign [.Subscript (.Name x p) idx tpos] e pos) (wSetIx i wk w) :=
  ps_weak (ps_asg he (pg_sub (pv i hN hv hd hcd) hk set_list ha) hs hw h1) fun D σ H ⟨W, ρ, E, ok, h, hn, hr, hb, hc, hx⟩ => by
    refine lE_then (R := fun d ρ1 => (∃ s0, ρ1[i]? = some (some s0)) ∧ wk E.ex ρ1 fun k ρ2 => match ρ2[i]? with
      | some (some s) => sIx s k.frz d fun s' => E.nx (if s.isOwn = true then ρ2.set i (some s') else ρ2)
      | _ => False) ok h (hx.z σ ρ) fun d ρ1 W1 x1 H1 ⟨⟨s0, e0⟩, h1⟩ g1 d1 => ?_
    obtain ⟨y, _, ey, _⟩ := g1.ok.look e0
    refine ⟨y, ey, ?_⟩
    refine lE_then (R := fun k ρ2 => match ρ2[i]? with
      | some (some s) => sIx s k d fun s' => E.nx (if s.isOwn = true then ρ2.set i (some s') else ρ2)
      | _ => False) g1.ok h1 ((hx.z σ ρ).go g1) fun k ρ2 W2 x2 H2 h2 g2 d2 => ?_
    have g12 := g1.trans g2
    split at h2
    · rename_i s e2
      obtain ⟨y1, ey1, r⟩ := g2.ok.val i _ e2
      rw [ey] at ey1; cases ey1
      have d1' := d1.le g2.stp.le
      cases s with
      | own ds =>
        obtain ⟨q, vs, rfl, hq, da⟩ := r
        cases d2 <;> first | exact h2.elim | skip
        rename_i j
        obtain ⟨n, hn1, hN'⟩ := h2
        simp only [S.isOwn, if_true] at hN'
        have nf := (g2.ok.frs q ⟨i, _, e2, rfl, ey⟩).1
        have l : Le W2 H2 W2 (upd H2 q (.lst (vs.set n x1))) := ⟨fun _ h => h, fun _ h => h, fun a z => upd_ne fun z2 => nf (by rw [← z2]; exact z)⟩
        have g3 := g2.ok.wslot (s' := .own (ds.set n d)) (o := .lst (vs.set n x1)) e2 ey rfl rfl ⟨q, _, rfl, upd_same, (DnA.set d1' n da).le l⟩
        exact ⟨q, vs, j, n, rfl, rfl, hq, by rw [← da.length]; exact hn1, hn _ W2 σ _ hN' g3.ok (g12.stp.le.trans g3.stp.le)⟩
      | odic es => exact (by cases d2 <;> exact h2.elim)
      | d z =>
        cases z <;> first | (cases d2 <;> exact False.elim h2) | skip
        cases d2 <;> first | exact False.elim h2 | skip
        rename_i j
        obtain ⟨hj, ⟨n, rfl, hb⟩, hN'⟩ := h2
        simp only [S.isOwn, Bool.false_eq_true, if_false] at hN'
        have r' : Dn X.K W2 H2 .jar y := r
        cases r' with
        | jar ja =>
          obtain ⟨x0, y0, z0, e3, b3⟩ := g2.ok.al.j _ ja
          cases d1'
          rcases hj with rfl | rfl | rfl
          · have g3 := g2.ok.wjar (x := n) (y := y0) (z := z0) ja b3
            exact ⟨_, _, 0, 0, rfl, rfl, e3, rfl, hn _ W2 σ _ hN' g3.ok (g12.stp.le.trans g3.stp.le)⟩
          · have g3 := g2.ok.wjar (x := x0) (y := n) (z := z0) ja (hb rfl)
            exact ⟨_, _, 1, 1, rfl, rfl, e3, rfl, hn _ W2 σ _ hN' g3.ok (g12.stp.le.trans g3.stp.le)⟩
          · have g3 := g2.ok.wjar (x := x0) (y := y0) (z := n) ja b3
            exact ⟨_, _, 2, 2, rfl, rfl, e3, rfl, hn _ W2 σ _ hN' g3.ok (g12.stp.le.trans g3.stp.le)⟩
    · exact h2.elim
/-! ### a def's answer, a list of three ints of its own, is a jar from now on -/
theorem FnG.jar {P : Program} {w : World} {K : PySem.W.Frag} {mg : Str → Option Value} {base : Heap} {k : Nat} {f : Addr} {fd : FuncData} {ps : List Str} {wf wf' : WF} (F : FnG P w K mg base k f fd ps wf)
    (h : ∀ Z ds R, ds.length = ps.length → wf' Z ds R → wf Z ds fun s => ∃ x y z : Int, s = .own [.int x, .int y, .int z] ∧ (-(2 ^ 40) < y ∧ y < 2 ^ 40) ∧ R (.d .jar)) : FnG P w K mg base k f fd ps wf' :=
  fun A outer s H args us vs ds W R Z Q E hg hr e0 hbd r hlen al da hwf hQ hE => F A outer s H args us vs ds W _ Z Q E hg hr e0 hbd r hlen al da (h Z ds R hlen hwf) (fun d W' x H' ⟨i, j, l, e, b, hR⟩ rt => by
    subst e
    obtain ⟨q, vs', rfl, hq, dd⟩ := rt.res.rs
    obtain ⟨nf, nj, h0⟩ := rt.res.fr rfl q rfl
    have ev : vs' = [.int i, .int j, .int l] := DnA.map_int (ns := [i, j, l]) dd
    subst ev
    refine hQ _ (W'.addJ q) _ H' hR ⟨⟨rt.al.f, fun a z => z.elim (rt.al.j a) fun e => ⟨i, j, l, by rw [e]; exact hq, b⟩, fun a z => z.elim (rt.al.d a) fun e => by rw [e]; exact nf⟩, ⟨⟨rt.stp.le.F, fun a z => .inl (rt.stp.le.J a z), rt.stp.le.k⟩, rt.stp.nF, fun a z => z.elim (rt.stp.nJ a) fun e => .inr (by rw [e]; exact h0), rt.stp.st, rt.stp.up⟩, .of (.jar (.inr rfl))⟩) hE
end
end DL

/-! DL6: defs by their names. -/
namespace DL
open PySem PySem.Spec L2
/-- the def named x at the module's top does what wf says -/
def Df (P : Program) (w : World) (K : PySem.W.Frag) (mg : Str → Option Value) (base : Heap) (k : Nat) (x : Str) (st : Stmt) (ps : List Str) (wf : WF) : Prop :=
  ∃ f fd, mg x = some (.ref f) ∧ Fun K x x st f fd ∧ Binds K fd ps [] ∧ FnG P w K mg base k f fd ps wf
def Raw (K : PySem.W.Frag) (mg : Str → Option Value) (x : Str) (st : Stmt) : Prop := ∃ f fd, mg x = some (.ref f) ∧ Fun K x x st f fd
theorem raw_mk {K : PySem.W.Frag} {h : Heap} {mg : Str → Option Value} {x : Str} {st : Stmt} (X : K.In h) (G : h.Ns mainGlobals mg) {f : Addr} {od an : Option Addr} {sl : Array (Option Value)} {oc kV dc pm cd ct : Value}
    (a : PySem.W.nsIn K mainGlobals x = some (some (.ref f))) (l : K.lookup f = some ⟨oc, od, .func (PySem.W.fnOf x x (defArgs st) (defBody st) (defScope st) .none kV dc pm an cd ct), sl⟩) (c : PySem.W.codeIn K cd x = true) (k : PySem.W.keepIn K (.ref f) = true) : Raw K mg x st :=
  ⟨f, _, PySem.W.mg_of X G a, fun_mk (st := st) l c k⟩
theorem df_of {P : Program} {w : World} {K : PySem.W.Frag} {mg : Str → Option Value} {base : Heap} {x : Str} {st : Stmt} {N ps : List Str} {k : Nat} {wf : WF} {wb : WS} (r : Raw K mg x st) (Sc : FnScope N ps (defScope st))
    (hbi : ∀ (kV doc pm : Value) (an : Option Addr) (cdv ct : Value) (us : List Value), us.length = ps.length → bindArgs (PySem.W.fnOf x x (defArgs st) (defBody st) (defScope st) .none kV doc pm an cdv ct) ⟨us, []⟩ = pure (ps.zip us))
    (hw : ∀ Z ds R, ds.length = ps.length → wf Z ds R → wb ⟨fun _ => R (.d .non), R, fun _ => False, fun _ => False, fun x _ => Z x⟩ (rho0 N ds))
    (hb : ∀ (f : Addr) (cdv : Value) (A : Around) (outer : List PySem.Env) (s : Shared) (H : Hp) (E : XK) (W : Wd), CxG (cxOf (L2.CX P w) P w K mg base N x (defScope st) f cdv A outer s H E) (fun cls d _ H => E cls d H) k →
      DSs (cxOf (L2.CX P w) P w K mg base N x (defScope st) f cdv A outer s H E) ⟨W, H⟩ (fun cls d _ H => E cls d H) (defBody st) wb) : Df P w K mg base (k + 1) x st ps wf := by
  obtain ⟨f, fd, h1, F⟩ := r
  exact ⟨f, fd, h1, F, F.binds hbi, ok_def F Sc hw (hb f)⟩
theorem Df.imp {P : Program} {w : World} {K : PySem.W.Frag} {mg : Str → Option Value} {base : Heap} {k : Nat} {x : Str} {st : Stmt} {ps : List Str} {wf wf' : WF} (F : Df P w K mg base k x st ps wf) (h : ∀ Z ds R, ds.length = ps.length → wf' Z ds R → wf Z ds R) : Df P w K mg base k x st ps wf' := by
  obtain ⟨f, fd, h1, h2, h3, h4⟩ := F
  exact ⟨f, fd, h1, h2, h3, h4.imp h⟩
theorem Df.jar {P : Program} {w : World} {K : PySem.W.Frag} {mg : Str → Option Value} {base : Heap} {k : Nat} {x : Str} {st : Stmt} {ps : List Str} {wf wf' : WF} (F : Df P w K mg base k x st ps wf)
    (h : ∀ Z ds R, ds.length = ps.length → wf' Z ds R → wf Z ds fun s => ∃ x y z : Int, s = .own [.int x, .int y, .int z] ∧ (-(2 ^ 40) < y ∧ y < 2 ^ 40) ∧ R (.d .jar)) : Df P w K mg base k x st ps wf' := by
  obtain ⟨f, fd, h1, h2, h3, h4⟩ := F
  exact ⟨f, fd, h1, h2, h3, h4.jar h⟩
section
variable {X : Cx} {G : Gx} {T : WX} {k j : Nat} {ps : List Str} {wf : WF}
theorem de_callD {x : Str} {st : Stmt} {p pos : Pos} {e : Expr} {es : List Expr} {u : WA} (C : CxG X T k) (F : Df X.prog X.w X.K X.mg X.base j x st ps wf) (hj : j ≤ k) (ha : DA X G T (e :: es) u)
    (hg : Gl X x := by rfl) (hdb : (x == ("__debug__" : Str)) = false := by decide) (he : starEach (e :: es) X.env = (false, eval e X.env) :: starEach es X.env := by rfl) (hpl : (backTo pos (starEach es X.env)).any (·.1) = false := by rfl) :
    DE X G T (.Call (.Name x p) (e :: es) [] pos) (wCall ps.length wf u) := by
  obtain ⟨f, fd, h1, h2, h3, h4⟩ := F
  exact de_call C h4 hj h1 h2.kp h3 ha hg hdb he hpl
/-! ### keywords -/
def DK (X : Cx) (G : Gx) (T : WX) (kws : List Keyword) (w : WA) : Prop := PK X kws (lA X.K G T w)
theorem dk_nil : DK X G T [] wNil := ⟨fun po p s σ H Q I ⟨W, ρ, R, Z, ok, h, hR, hZ⟩ => pk_nil.run po p s σ H Q I (hR _ _ _ _ _ h (.refl ok) .nil)⟩
theorem dk_cons {nm : Option Str} {e : Expr} {kpos : Pos} {kws : List Keyword} {wa : WE} {u : WA} (ha : DE X G T e wa) (hr : DK X G T kws u) : DK X G T (⟨nm, e, kpos⟩ :: kws) (wCons wa u) :=
  ⟨fun po p s σ H Q I ⟨W, ρ, R, Z, ok, h, hR, hZ⟩ => (pk_cons (te := lE X.K G T wa) (t := lA X.K G T u) ha hr).run po p s σ H Q I (by
    refine lE_then (R := fun x ρ1 => u Z ρ1 fun xs ρ2 => R (x :: xs) ρ2) ok h hZ fun d ρ1 W1 x H1 h1 g1 d1 => ?_
    exact ⟨W1, ρ1, _, Z, g1.ok, h1, fun ds ρ2 W2 xs H2 h2 g2 d2 => hR _ _ _ _ _ h2 (g1.trans g2) (.cons (d1.le g2.stp.le) d2), hZ.go g1⟩)⟩
/-- the values in the parameters' order -/
def permL {α : Type} (x0 : α) (is : List Nat) (l : List α) : List α := is.map fun i => l.getD i x0
def wCallK (n n1 n2 : Nat) (is : List Nat) (wf : WF) (u uk : WA) : WE := fun Z ρ R => u Z ρ fun ds ρ1 => ds.length = n1 ∧ uk Z ρ1 fun es ρ2 => es.length = n2 ∧ (permL .non is (ds ++ es)).length = n ∧ (∀ i ∈ is, i < (ds ++ es).length) ∧ wf (fun x => Z x ρ2) (permL .non is (ds ++ es)) fun s => R s ρ2
theorem vals_perm {vs : List V} {us : List Value} (r : Vals vs us) : ∀ {is : List Nat}, (∀ i ∈ is, i < vs.length) → Vals (permL .non is vs) (permL .none is us)
  | [], _ => .nil
  | i :: is, h => by
    have hi := h i (List.mem_cons_self ..)
    obtain ⟨u, e, ru⟩ := r.get (List.getElem?_eq_getElem hi)
    refine .cons ?_ (vals_perm r fun j hj => h j (List.mem_cons_of_mem _ hj))
    show RelV (vs.getD i .non) (us.getD i .none)
    rw [List.getD_eq_getElem?_getD, List.getD_eq_getElem?_getD, e, List.getElem?_eq_getElem hi]
    exact ru
theorem dna_perm {K : PySem.W.Frag} {W : Wd} {H : Hp} {ds : List D} {vs : List V} (r : DnA K W H ds vs) : ∀ {is : List Nat}, (∀ i ∈ is, i < ds.length) → DnA K W H (permL .non is ds) (permL .non is vs)
  | [], _ => .nil
  | i :: is, h => by
    have hi := h i (List.mem_cons_self ..)
    obtain ⟨u, e, ru⟩ := r.get (List.getElem?_eq_getElem hi)
    refine .cons ?_ (dna_perm r fun j hj => h j (List.mem_cons_of_mem _ hj))
    show Dn K W H (ds.getD i .non) (vs.getD i .non)
    rw [List.getD_eq_getElem?_getD, List.getD_eq_getElem?_getD, e, List.getElem?_eq_getElem hi]
    exact ru
theorem de_callK {x : Str} {st : Stmt} {p pos : Pos} {e : Expr} {es : List Expr} {kws : List Keyword} {u uk : WA} (is : List Nat) (ks : List Str) (C : CxG X T k) (F : Df X.prog X.w X.K X.mg X.base j x st ps wf) (hj : j ≤ k) (ha : DA X G T (e :: es) u) (hkw : DK X G T kws uk)
    (hbi : ∀ (kV doc pm : Value) (an : Option Addr) (cdv ct : Value) (us ws : List Value), us.length = (e :: es).length → ws.length = ks.length → bindArgs (PySem.W.fnOf x x (defArgs st) (defBody st) (defScope st) .none kV doc pm an cdv ct) ⟨us, ks.zip ws⟩ = pure (ps.zip (permL .none is (us ++ ws))))
    (hall : (backToKw pos (keywordEach kws X.env)).all (·.1.isSome) = true := by rfl) (hks : (backToKw pos (keywordEach kws X.env)).filterMap (·.1) = ks := by rfl)
    (hg : Gl X x := by rfl) (hdb : (x == ("__debug__" : Str)) = false := by decide) (he : starEach (e :: es) X.env = (false, eval e X.env) :: starEach es X.env := by rfl)
    (hpl : ((backTo pos (starEach (e :: es) X.env)).any (·.1) || (backToKw pos (keywordEach kws X.env)).any (·.1.isNone)) = false := by rfl) :
    DE X G T (.Call (.Name x p) (e :: es) kws pos) (wCallK ps.length (e :: es).length ks.length is wf u uk) := by
  obtain ⟨f, fd, h1, Fu, h3, h4⟩ := F
  refine ⟨fun pins s σ H Q I ⟨W, ρ, R, Z, ok, h, hR, hZ⟩ => ?_⟩
  refine wpAny_Call_Name_kw (ld_glob I hg h1 ?_ hdb)
  have args : lA X.K G T u σ H fun vs H1 => ∃ ds W1 ρ1, Go X.K G σ ρ W H ρ1 W1 H1 ∧ DnA X.K W1 H1 ds vs ∧ ds.length = (e :: es).length ∧ uk Z ρ1 fun es2 ρ2 => es2.length = ks.length ∧ (permL .non is (ds ++ es2)).length = ps.length ∧ (∀ i ∈ is, i < (ds ++ es2).length) ∧ wf (fun x => Z x ρ2) (permL .non is (ds ++ es2)) fun s => R s ρ2 :=
    ⟨W, ρ, _, Z, ok, h, fun ds ρ1 W1 xs H1 ⟨h1, h2⟩ g d => ⟨ds, W1, ρ1, g, d, h1, h2⟩, hZ⟩
  refine PySem.W.callWith_KW (h₀ := X.base) I.ok.mod.kin Fu.kp hall (thn (ha.run pos pins s σ H _ I args) fun us s1 ⟨vs, H1, I1, r, ds, W1, ρ1, g, d, l1, hh⟩ => ?_) hpl he
  have kargs : lA X.K G T uk σ H1 fun zs H2 => ∃ es2 W2 ρ2, Go X.K G σ ρ1 W1 H1 ρ2 W2 H2 ∧ DnA X.K W2 H2 es2 zs ∧ es2.length = ks.length ∧ (permL .non is (ds ++ es2)).length = ps.length ∧ (∀ i ∈ is, i < (ds ++ es2).length) ∧ wf (fun x => Z x ρ2) (permL .non is (ds ++ es2)) fun s => R s ρ2 :=
    ⟨W1, ρ1, _, Z, g.ok, hh, fun ds ρ1 W1 xs H1 ⟨h1, h2⟩ g d => ⟨ds, W1, ρ1, g, d, h1, h2⟩, hZ.go g⟩
  refine thn (hkw.run pos pins s1 σ H1 _ I1 kargs) fun ws s2 ⟨zs, H2, I2, rz, es2, W2, ρ2, g2, d2, l2, l3, l4, hw⟩ => ⟨I2.kIn, ?_⟩
  rw [hks]
  have da := (d.le g2.stp.le).append d2
  have dp := dna_perm da l4
  have rp := vals_perm (r.append rz) (is := is) (by rw [← da.length]; exact l4)
  obtain ⟨oc, od, kV, doc, pm, an, cdv, ct, osl, rfl, lk, hcd⟩ := Fu.ex
  have bt : BindsTo s2 (PySem.W.fnOf x x (defArgs st) (defBody st) (defScope st) .none kV doc pm an cdv ct) ⟨us, ks.zip ws⟩ (ps.zip (permL .none is (us ++ ws))) :=
    .of_eq (hbi kV doc pm an cdv ct us ws (by rw [← r.length, ← d.length]; exact l1) (by rw [← rz.length, ← d2.length]; exact l2))
  refine wpAny_call (codeAny_mono (run_g C h4 hj bt I2 rp l3 g2.ok dp hw (fun d W' x H' hr g' rs => hR d ρ2 W' x H' hr ((g.trans g2).trans g') (rs.up (g.trans g2).stp.up)) fun x W' H' c dx hz g' ex => hZ x ρ2 W' H' c dx hz ((g.trans g2).trans g') ex) fun r s' hq => ?_)
  match r, hq with
  | .error e, hq => exact hq
  | .ok (.ret u), hq => exact hq
/-- keywords alone -/
theorem de_callK0 {x : Str} {st : Stmt} {p pos : Pos} {kws : List Keyword} {uk : WA} (is : List Nat) (ks : List Str) (C : CxG X T k) (F : Df X.prog X.w X.K X.mg X.base j x st ps wf) (hj : j ≤ k) (hkw : DK X G T kws uk)
    (hbi : ∀ (kV doc pm : Value) (an : Option Addr) (cdv ct : Value) (ws : List Value), ws.length = ks.length → bindArgs (PySem.W.fnOf x x (defArgs st) (defBody st) (defScope st) .none kV doc pm an cdv ct) ⟨[], ks.zip ws⟩ = pure (ps.zip (permL .none is ws)))
    (hall : (backToKw pos (keywordEach kws X.env)).all (·.1.isSome) = true := by rfl) (hks : (backToKw pos (keywordEach kws X.env)).filterMap (·.1) = ks := by rfl)
    (hg : Gl X x := by rfl) (hdb : (x == ("__debug__" : Str)) = false := by decide)
    (hpl : ((backTo pos (starEach [] X.env)).any (·.1) || (backToKw pos (keywordEach kws X.env)).any (·.1.isNone)) = false := by rfl) :
    DE X G T (.Call (.Name x p) [] kws pos) (wCallK ps.length 0 ks.length is wf wNil uk) := by
  obtain ⟨f, fd, h1, Fu, h3, h4⟩ := F
  refine ⟨fun pins s σ H Q I ⟨W, ρ, R, Z, ok, h, hR, hZ⟩ => ?_⟩
  refine wpAny_Call_Name_kw (ld_glob I hg h1 ?_ hdb)
  refine PySem.W.callWith_KW0 (h₀ := X.base) I.ok.mod.kin Fu.kp hall ?_ hpl
  have kargs : lA X.K G T uk σ H fun zs H2 => ∃ es2 W2 ρ2, Go X.K G σ ρ W H ρ2 W2 H2 ∧ DnA X.K W2 H2 es2 zs ∧ es2.length = ks.length ∧ (permL .non is es2).length = ps.length ∧ (∀ i ∈ is, i < es2.length) ∧ wf (fun x => Z x ρ2) (permL .non is es2) fun s => R s ρ2 :=
    ⟨W, ρ, _, Z, ok, h.2, fun ds ρ1 W1 xs H1 ⟨h1, h2⟩ g d => ⟨ds, W1, ρ1, g, d, h1, h2⟩, hZ⟩
  refine thn (hkw.run pos pins s σ H _ I kargs) fun ws s2 ⟨zs, H2, I2, rz, es2, W2, ρ2, g2, d2, l2, l3, l4, hw⟩ => ⟨I2.kIn, ?_⟩
  rw [hks]
  have dp := dna_perm d2 l4
  have rp := vals_perm rz (is := is) (by rw [← d2.length]; exact l4)
  obtain ⟨oc, od, kV, doc, pm, an, cdv, ct, osl, rfl, lk, hcd⟩ := Fu.ex
  have bt : BindsTo s2 (PySem.W.fnOf x x (defArgs st) (defBody st) (defScope st) .none kV doc pm an cdv ct) ⟨[], ks.zip ws⟩ (ps.zip (permL .none is ws)) :=
    .of_eq (hbi kV doc pm an cdv ct ws (by rw [← rz.length, ← d2.length]; exact l2))
  refine wpAny_call (codeAny_mono (run_g C h4 hj bt I2 rp l3 g2.ok dp hw (fun d W' x H' hr g' rs => hR d ρ2 W' x H' hr (g2.trans g') (rs.up g2.stp.up)) fun x W' H' c dx hz g' ex => hZ x ρ2 W' H' c dx hz (g2.trans g') ex) fun r s' hq => ?_)
  match r, hq with
  | .error e, hq => exact hq
  | .ok (.ret u), hq => exact hq
theorem de_gintE {x : Str} {i : Int} {pos : Pos} (hm : ∃ t, X.mg x = some (.int i t)) (hg : Gl X x := by rfl) (hd : (x == ("__debug__" : Str)) = false := by decide) : DE X G T (.Name x pos) (wC (.int i)) := by
  obtain ⟨t, h⟩ := hm
  exact de_gint hg h hd
theorem de_gstrE {x : Str} {i : Str} {pos : Pos} (hm : ∃ t, X.mg x = some (.str i t)) (hg : Gl X x := by rfl) (hd : (x == ("__debug__" : Str)) = false := by decide) : DE X G T (.Name x pos) (wC (.str i)) := by
  obtain ⟨t, h⟩ := hm
  exact de_gstr hg h hd
end
theorem gint_mk {K : PySem.W.Frag} {h : Heap} {mg : Str → Option Value} {x : Str} {i : Int} {t : Tok} (X : K.In h) (G : h.Ns mainGlobals mg) (a : PySem.W.nsIn K mainGlobals x = some (some (.int i t))) : ∃ t, mg x = some (.int i t) := ⟨t, PySem.W.mg_of X G a⟩
theorem gstr_mk {K : PySem.W.Frag} {h : Heap} {mg : Str → Option Value} {x : Str} {i : Str} {t : Tok} (X : K.In h) (G : h.Ns mainGlobals mg) (a : PySem.W.nsIn K mainGlobals x = some (some (.str i t))) : ∃ t, mg x = some (.str i t) := ⟨t, PySem.W.mg_of X G a⟩
/-- the law's def is run -/
theorem end_of {P : Program} {w : World} {K : PySem.W.Frag} {mg : Str → Option Value} {k : Nat} {x : Str} {p : Str} {wf : WF} {fa : Addr} {h : Heap} (KX : K.In h) (Gn : h.Ns mainGlobals mg) (hfa : mg x = some (.ref fa)) {st : Stmt} (r : Raw K mg x st)
    (hbi : ∀ (kV doc pm : Value) (an : Option Addr) (cdv ct : Value) (s : Shared) (v : Value), BindsTo s (PySem.W.fnOf x x (defArgs st) (defBody st) (defScope st) .none kV doc pm an cdv ct) ⟨[v], []⟩ [(p, v)])
    (F : ∀ base : Heap, Df P w K mg base k x st [p] wf) :
    ∃ fd : FuncData, (∀ (s : Shared) (u : Value), BindsTo s fd ⟨[u], []⟩ [(p, u)]) ∧ ∀ base : Heap, K.In base → base.Ns mainGlobals mg → FnG P w K mg base k fa fd [p] wf := by
  obtain ⟨f, fd, h1, Fu⟩ := r
  rw [hfa] at h1
  cases h1
  obtain ⟨oc, od, kV, doc, pm, an, cdv, ct, osl, rfl, lk, hcd⟩ := Fu.ex
  refine ⟨_, hbi kV doc pm an cdv ct, fun base _ _ => ?_⟩
  obtain ⟨f', fd', g1, g2, g3, g4⟩ := F base
  rw [hfa] at g1
  cases g1
  obtain ⟨oc2, od2, _, _, _, _, _, _, sl2, _, l2, _⟩ := g2.ex
  rw [lk] at l2
  cases l2
  exact g4
end DL

/-! DL5b: slices, range with a step, three names at once. -/
namespace DL
open PySem PySem.Spec L2
section
variable {X : Cx} {G : Gx} {T : WX} {a b c e : Expr} {w wa wb wc : WE} {pos p p2 : Pos} {i : Nat}
abbrev WO := ZK → Rho → (Option Int → Rho → Prop) → Prop
def lO (K : PySem.W.Frag) (G : Gx) (T : WX) (w : WO) : TO := fun σ H Q => ∃ (W : Wd) (ρ : Rho) (R : Option Int → Rho → Prop) (Z : ZK), Ok K G W ρ σ H ∧ w Z ρ R ∧ (∀ o ρ' W' H', R o ρ' → Go K G σ ρ W H ρ' W' H' → Q o H') ∧ lZ K G T Z σ ρ W H
def DO (X : Cx) (G : Gx) (T : WX) (e : Option Expr) (w : WO) : Prop := PO X e (lO X.K G T w)
theorem po_weak {e : Option Expr} {t t' : TO} (h : PO X e t) (i : ∀ σ H Q, t' σ H Q → t σ H Q) : PO X e t' := ⟨fun p s σ H Q I q => h.run p s σ H Q I (i σ H Q q)⟩
def wNoP : WO := fun _ ρ R => R none ρ
def wPart (w : WE) : WO := fun Z ρ R => w Z ρ fun d ρ' => match d.frz with
  | .int i => R (some i) ρ'
  | _ => False
theorem do_none : DO X G T none wNoP := po_weak po_none fun σ H Q ⟨W, ρ, R, Z, ok, h, hR, _⟩ => hR _ _ _ _ h (.refl ok)
theorem do_some (h : DE X G T e w) : DO X G T (some e) (wPart w) := po_weak (po_some h) fun σ H Q ⟨W, ρ, R, Z, ok, h, hR, hZ⟩ => by
  refine lE_then (R := fun d ρ' => match d with | .int i => R (some i) ρ' | _ => False) ok h hZ fun d ρ1 W1 x H1 h1 g1 d1 => ?_
  cases d1 <;> first | exact False.elim h1 | skip
  exact ⟨_, rfl, hR _ _ _ _ h1 g1⟩
def cutD {α : Type} (xs : List α) (lo hi : Option Int) : List α := (xs.drop (HT.sIx xs.length 0 lo)).take (HT.sIx xs.length xs.length hi - HT.sIx xs.length 0 lo)
theorem DnA.cut {K : PySem.W.Frag} {W : Wd} {H : Hp} {ds : List D} {xs : List V} (h : DnA K W H ds xs) (lo hi : Option Int) : DnA K W H (cutD ds lo hi) (cutV xs lo hi) := by
  unfold cutD cutV
  rw [← h.length]
  exact (h.drop _).take _
def fSl (d : D) (lo hi : Option Int) (R : S → Prop) : Prop := match d with
  | .tup ds => R (.d (.tup (cutD ds lo hi)))
  | .lst ds => R (.own (cutD ds lo hi))
  | .rls ds => R (.own (cutD ds lo hi))
  | .str s => s.length ≤ sizeLine ∧ R (.d (.str (cutS s lo hi)))
  | _ => False
def wSl (w : WE) (wl wh : WO) : WE := fun Z ρ R => w Z ρ fun d ρ1 => wl Z ρ1 fun lo ρ2 => wh Z ρ2 fun hi ρ3 => fSl d.frz lo hi fun z => R z ρ3
def rSlX (K : PySem.W.Frag) : V → Option Int → Option Int → Hp → VK → Prop := fun x lo hi H Q => (rSlL K x lo hi H Q ∨ rSlA K x lo hi H Q) ∨ ∃ z, x = .str z ∧ z.length ≤ sizeLine ∧ Q (.str (cutS z lo hi)) H
theorem cut_whole {α : Type} {xs : List α} {lo hi : Option Int} (h : HT.sIx xs.length 0 lo = 0 ∧ HT.sIx xs.length xs.length hi = xs.length) : cutD xs lo hi = xs := by
  unfold cutD
  rw [h.1, h.2]
  simp
theorem lE_sl {K : PySem.W.Frag} {wl wh : WO} {σ : L2.St} {H : Hp} {Q : VK} (h : lE K G T (wSl w wl wh) σ H Q) : tSl (fun x lo hi H Q => (rSlL K x lo hi H Q ∨ rSlA K x lo hi H Q) ∨ rSlS x lo hi H Q) (lE K G T w) (lO K G T wl) (lO K G T wh) σ H Q := by
  obtain ⟨W, ρ, R, Z, ok, h, hR, hZ⟩ := h
  refine lE_then (R := fun d ρ1 => wl Z ρ1 fun lo ρ2 => wh Z ρ2 fun hi ρ3 => fSl d lo hi fun z => R z ρ3) ok h hZ fun d ρ1 W1 x H1 h1 g1 d1 => ?_
  refine ⟨W1, ρ1, _, Z, g1.ok, h1, fun lo ρ2 W2 H2 h2 g2 => ?_, hZ.go g1⟩
  refine ⟨W2, ρ2, _, Z, g2.ok, h2, fun hi ρ3 W3 H3 h3 g3 => ?_, (hZ.go g1).go g2⟩
  have g := (g1.trans g2).trans g3
  have d3 := (d1.le g2.stp.le).le g3.stp.le
  match d, x, d3, h3 with
  | .tup ds, _, .tup e da, h3 =>
    have lq := da.length
    refine .inl (.inr ⟨_, _, rfl, e.sq, fun hw => ?_, fun _ q hq => ?_⟩)
    · rw [← lq] at hw
      refine hR _ ρ3 W3 _ H3 h3 g (.of ?_)
      rw [cut_whole hw]
      exact .tup e da
    · exact hR _ ρ3 _ _ _ h3 (g.trans (.newF g.ok hq)) (.of (res_tup g.ok hq (da.cut lo hi)))
  | .lst ds, _, .lst f e da, h3 => exact .inl (.inl ⟨_, _, rfl, SqL.of e, fun q hq => hR _ ρ3 _ _ _ h3 (g.trans (.new g.ok hq)) (res_own g.ok hq (g.stp.up q hq) (da.cut lo hi))⟩)
  | .rls ds, _, .rls e da, h3 => exact .inl (.inl ⟨_, _, rfl, e.sq, fun q hq => hR _ ρ3 _ _ _ h3 (g.trans (.new g.ok hq)) (res_own g.ok hq (g.stp.up q hq) (da.cut lo hi))⟩)
  | .str z, _, .str _, h3 => exact .inr ⟨z, rfl, h3.1, hR _ ρ3 W3 _ H3 h3.2 g (.of (.str _))⟩
theorem de_sl {lo hi : Option Expr} {wl wh : WO} (he : DE X G T e w) (hl : DO X G T lo wl) (hu : DO X G T hi wh) : DE X G T (.Subscript e (.Slice lo hi none p2) pos) (wSl w wl wh) :=
  pe_weak (pe_slice ((sl_list.or sl_tupA).or sl_str) he hl hu) fun _ _ _ h => lE_sl h
/-- xs[::-1] of a list -/
def fRev (d : D) (R : S → Prop) : Prop := match d with
  | .lst ds => R (.own ds.reverse)
  | .rls ds => R (.own ds.reverse)
  | _ => False
theorem de_rev {k : Nat} {p1 p3 : Pos} (he : DE X G T e w) : DE X G T (.Subscript e (.Slice none none (some (.UnaryOp .USub (.Constant (.int 1) k p1) p2)) p3) pos) (wUn fRev w) :=
  pe_weak (pe_revL he) fun σ H Q h => lE_un (K := X.K) (r := fun x H1 Q => ∃ a xs, x = .ref a ∧ SqL X.K H1 a xs ∧ ∀ p, H1 p = none → Q (.ref p) (upd H1 p (.lst xs.reverse))) (fun G W ρ σ H d x R Q ok hd f k => by
    match d, x, hd, f with
    | .lst ds, _, .lst _ e da, f => exact ⟨_, _, rfl, SqL.of e, fun q hq => k _ _ _ _ f (.new ok hq) (res_own ok hq hq da.reverse)⟩
    | .rls ds, _, .rls e da, f => exact ⟨_, _, rfl, e.sq, fun q hq => k _ _ _ _ f (.new ok hq) (res_own ok hq hq da.reverse)⟩) h
/-! ### range(a, b, c) -/
def rangeDC (lo c : Int) (n : Nat) : List D := (List.range n).map fun i => .int (lo + (i : Nat) * c)
theorem itc_ok {K : PySem.W.Frag} {W : Wd} {H : Hp} {lo cc : Int} {n : Nat} : ItOk K W H (Itc lo cc n) (rangeDC lo cc n) := fun i W1 H1 l al => by
  unfold rangeDC
  refine ⟨fun h => (show n ≤ i by simpa using h), fun d hd => ?_⟩
  rw [List.getElem?_map] at hd
  by_cases q : i < n
  · rw [List.getElem?_range q] at hd
    cases hd
    refine ⟨q, fun y H2 ⟨e1, e2⟩ => ?_⟩
    subst e1 e2
    exact ⟨W1, .refl _ _ _, al, .int _⟩
  · rw [List.getElem?_eq_none (by simpa using q)] at hd
    cases hd
def rg3 (ds : List D) (N : List D → Prop) : Prop := match ds with
  | [.int i, .int j, .int c] => ∃ n, RgC i j c n ∧ N (rangeDC i c n)
  | _ => False
theorem di_range3 {tg : Expr} {ta : WA} (ha : DA X G T [a, b, c] ta) (hg : Gl X "range") (hm : X.mg "range" = none) (hs : starEach [a, b, c] X.env = (false, eval a X.env) :: starEach [b, c] X.env := by rfl) (hpl : (backTo pos (starEach [b, c] X.env)).any (·.1) = false := by rfl) : DI X G T tg (.Call (.Name "range" p) [a, b, c] [] pos) (wRng rg3 ta) :=
  pi_weak (pi_range3 hg hm ha hs hpl) fun σ H R ⟨W, ρ, N, Z, ok, h, hN, hZ⟩ => ⟨W, ρ, _, Z, ok, h, fun ds ρ1 W1 xs H1 h1 g d => by
    match ds, xs, d, h1 with
    | [.int i, .int j, .int l], _, .cons (.int _) (.cons (.int _) (.cons (.int _) .nil)), ⟨n, h1, h2⟩ => exact ⟨i, j, l, n, rfl, h1, hN _ _ _ _ _ h2 g itc_ok⟩, hZ⟩
/-! ### a, b, c = x, y, z -/
def wPar3 (i j l : Nat) (wa wb wc : WE) : WS := fun E ρ => wa E.ex ρ fun x ρ1 => wb E.ex ρ1 fun y ρ2 => wc E.ex ρ2 fun z ρ3 => E.nx (((ρ3.set i (some x)).set j (some y)).set l (some z))
/-- the own ones of a stored slot -/
theorem ow_set {ρ : Rho} {σ : L2.St} {i : Nat} {s : S} {x : V} {a : Addr} (hl : σ.length = ρ.length) (h : Ow (ρ.set i (some s)) (σ.set i (some x)) a) : (s.isOwn = true ∧ x = .ref a) ∨ Ow ρ σ a := by
  obtain ⟨j, d, h1, h2, h3⟩ := h
  rcases set_get h1 with ⟨z1, z2⟩ | ⟨z1, z2⟩
  · cases z2; subst z1
    have hi : i < (σ.set i (some x)).length := (List.getElem?_eq_some_iff.mp h3).1
    rw [List.length_set] at hi
    rw [List.getElem?_set_self hi] at h3
    cases h3
    exact .inl ⟨h2, rfl⟩
  · rw [List.getElem?_set_ne z1] at h3
    exact .inr ⟨j, d, z2, h2, h3⟩
theorem lS_par3 {K : PySem.W.Frag} {σ : L2.St} {H : Hp} {D : Ends} {i j l : Nat} (h : lS K G T (wPar3 i j l wa wb wc) D σ H) : lE K G T wa σ H fun x H1 => lE K G T wb σ H1 fun y H2 => lE K G T wc σ H2 fun z H3 => D.nx (((σ.set i (some x)).set j (some y)).set l (some z)) H3 := by
  obtain ⟨W, ρ, E, ok, h, hn, hr, hb, hc, hx⟩ := h
  refine ⟨W, ρ, _, E.ex, ok, h, fun d1 ρ1 W1 x H1 h1 g1 r1 => ?_, hx.z σ ρ⟩
  refine ⟨W1, ρ1, _, E.ex, g1.ok, h1, fun d2 ρ2 W2 y H2 h2 g2 r2 => ?_, (hx.z σ ρ).go g1⟩
  refine ⟨W2, ρ2, _, E.ex, g2.ok, h2, fun d3 ρ3 W3 z H3 h3 g3 r3 => ?_, ((hx.z σ ρ).go g1).go g2⟩
  have a1 := (r1.go ok g1 g2)
  have g12 := g1.trans g2
  have a1' := a1.go ok g12 g3
  have a2' := r2.go g1.ok g2 g3
  have g123 := g12.trans g3
  have f1 := g123.fr ok a1'
  have f2 := (g2.trans g3).fr g1.ok a2'
  have f3 := g3.fr g2.ok r3
  have ne12 : ∀ p, d1.isOwn = true → x = .ref p → d2.isOwn = true → y = .ref p → False := fun p o1 e1 o2 e2 => by
    obtain ⟨q, u, q1, q2⟩ := r1.rs.ow o1
    rw [e1] at q1; cases q1
    rw [(r2.fr o2 p e2).2.2] at q2; cases q2
  have ne13 : ∀ p, d1.isOwn = true → x = .ref p → d3.isOwn = true → z = .ref p → False := fun p o1 e1 o2 e2 => by
    obtain ⟨q, u, q1, q2⟩ := a1.rs.ow o1
    rw [e1] at q1; cases q1
    rw [(r3.fr o2 p e2).2.2] at q2; cases q2
  have ne23 : ∀ p, d2.isOwn = true → y = .ref p → d3.isOwn = true → z = .ref p → False := fun p o1 e1 o2 e2 => by
    obtain ⟨q, u, q1, q2⟩ := r2.rs.ow o1
    rw [e1] at q1; cases q1
    rw [(r3.fr o2 p e2).2.2] at q2; cases q2
  have k1 := g123.ok.set (i := i) a1'.rs f1
  have k2 := k1.set (i := j) a2'.rs fun o p e => ⟨(f2 o p e).1, (f2 o p e).2.1, (f2 o p e).2.2.1, fun q => (ow_set g123.ok.len q).elim (fun q => ne12 p q.1 q.2 o e) (f2 o p e).2.2.2⟩
  have k3 := k2.set (i := l) r3.rs fun o p e => ⟨(f3 o p e).1, (f3 o p e).2.1, (f3 o p e).2.2.1, fun q => (ow_set k1.len q).elim (fun q => ne23 p q.1 q.2 o e) fun q => (ow_set g123.ok.len q).elim (fun q => ne13 p q.1 q.2 o e) (f3 o p e).2.2.2⟩
  exact hn _ W3 _ H3 h3 k3 g123.stp.le
theorem ds_par3 {i j l : Nat} {x y z : Str} {px py pz pt : Pos} {kt k2 pt2} (hN : X.N.Nodup) (ha : DE X G T a wa) (hb : DE X G T b wb) (hcc : DE X G T c wc) (hc : X.calm = true := by rfl) (hi : X.N[i]? = some x := by rfl) (hj : X.N[j]? = some y := by rfl) (hl : X.N[l]? = some z := by rfl) (hij : i ≠ j := by decide) (hil : i ≠ l := by decide) (hjl : j ≠ l := by decide)
    (hx : X.env.scope.names.lookup x = some .local := by rfl) (hy : X.env.scope.names.lookup y = some .local := by rfl) (hz : X.env.scope.names.lookup z = some .local := by rfl)
    (hw : swappedStores [.Tuple [.Name x px, .Name y py, .Name z pz] kt pt] (.Tuple [a, b, c] k2 pt2) X.env = pure (some [x, y, z]) := by rfl)
    (hs : swapsWithSole [.Tuple [.Name x px, .Name y py, .Name z pz] kt pt] (.Tuple [a, b, c] k2 pt2) pos.line X.env = pure false := by rfl)
    (hsa : starEach (a :: [b, c]) X.env = (false, eval a X.env) :: starEach [b, c] X.env := by rfl) (hsb : starEach (b :: [c]) X.env = (false, eval b X.env) :: starEach [c] X.env := by rfl) (hsc : starEach [c] X.env = (false, eval c X.env) :: starEach [] X.env := by rfl) :
    DS X G T (.Assign [.Tuple [.Name x px, .Name y py, .Name z pz] kt pt] (.Tuple [a, b, c] k2 pt2) pos) (wPar3 i j l wa wb wc) :=
  ps_weak (L2.ps_par3 (ta := tCons (lE X.K G T wa) (tCons (lE X.K G T wb) (tCons (lE X.K G T wc) tNil))) hc hN hi hj hl hij hil hjl hx hy hz (pa_cons ha (pa_cons hb (pa_cons hcc pa_nil hsc) hsb) hsa) hw hs) fun D σ H h => by
    obtain ⟨W, ρ, R, Z, ok, h, h1, hZ⟩ := lS_par3 h
    refine ⟨W, ρ, R, Z, ok, h, fun d ρ1 W1 x H1 hr g r => ?_, hZ⟩
    obtain ⟨W', ρ', R', Z', ok', h', h1', hZ'⟩ := h1 d ρ1 W1 x H1 hr g r
    refine ⟨W', ρ', R', Z', ok', h', fun d ρ1 W1 y H1 hr g r => ?_, hZ'⟩
    obtain ⟨W3, ρ3, R3, Z3, ok3, h3, h13, hZ3⟩ := h1' d ρ1 W1 y H1 hr g r
    exact ⟨W3, ρ3, R3, Z3, ok3, h3, fun d ρ1 W1 z H1 hr g r => ⟨x, y, z, rfl, h13 d ρ1 W1 z H1 hr g r⟩, hZ3⟩
/-! ### a, b = x, y by a tuple that is taken apart at once -/
theorem lS_parT {K : PySem.W.Frag} {σ : L2.St} {H : Hp} {D : Ends} {i j : Nat} (h : lS K G T (wPar i j wa wb) D σ H) : lE K G T wa σ H fun x H1 => lE K G T wb σ H1 fun y H2 => ∀ p, H2 p = none → D.nx ((σ.set i (some x)).set j (some y)) (upd H2 p (.tup [x, y])) := by
  obtain ⟨W, ρ, E, ok, h, hn, hr, hb, hc, hx⟩ := h
  refine ⟨W, ρ, _, E.ex, ok, h, fun d1 ρ1 W1 x H1 h1 g1 r1 => ?_, hx.z σ ρ⟩
  refine ⟨W1, ρ1, _, E.ex, g1.ok, h1, fun d2 ρ2 W2 y H2 h2 g2 r2 p hp => ?_, (hx.z σ ρ).go g1⟩
  have g3 := Go.new (o := .tup [x, y]) g2.ok hp
  have a1 := r1.go ok g1 (g2.trans g3)
  have a2 := r2.go g1.ok g2 g3
  have g123 := (g1.trans g2).trans g3
  have f1 := g123.fr ok a1
  have f2 := (g2.trans g3).fr g1.ok a2
  have k1 := g123.ok.set (i := i) a1.rs f1
  have k2 := k1.set (i := j) a2.rs fun o q e => ⟨(f2 o q e).1, (f2 o q e).2.1, (f2 o q e).2.2.1, fun z => (ow_set g123.ok.len z).elim (fun z => by
    obtain ⟨q', u, q1, q2⟩ := r1.rs.ow z.1
    rw [z.2] at q1; cases q1
    rw [(r2.fr o q e).2.2] at q2; cases q2) (f2 o q e).2.2.2⟩
  exact hn _ W2 _ _ h2 k2 g123.stp.le
theorem ds_parT {i j : Nat} {x y : Str} {px py pt : Pos} {kt k2 pt2} (hN : X.N.Nodup) (ha : DE X G T a wa) (hb : DE X G T b wb) (hg : PGs X [.Name x px, .Name y py] (gNames [i, j])) (hc : X.calm = true := by rfl)
    (hs : swapsWithSole [.Tuple [.Name x px, .Name y py] kt pt] (.Tuple [a, b] k2 pt2) pos.line X.env = pure false := by rfl) (hw : swappedStores [.Tuple [.Name x px, .Name y py] kt pt] (.Tuple [a, b] k2 pt2) X.env = pure none := by rfl)
    (hh : (assignEach [.Tuple [.Name x px, .Name y py] kt pt] X.env).map (·.2) = [assign (.Tuple [.Name x px, .Name y py] kt pt) X.env] := by rfl) (hn : (assignEach [.Name x px, .Name y py] X.env).length = 2 := by rfl) (hst : (assignEach [.Name x px, .Name y py] X.env).findIdx? (·.1) = none := by rfl)
    (hsa : starEach (a :: [b]) X.env = (false, eval a X.env) :: starEach [b] X.env := by rfl) (hsb : starEach [b] X.env = (false, eval b X.env) :: starEach [] X.env := by rfl) :
    DS X G T (.Assign [.Tuple [.Name x px, .Name y py] kt pt] (.Tuple [a, b] k2 pt2) pos) (wPar i j wa wb) :=
  ps_weak (ps_asg (pe_tup (t := tCons (lE X.K G T wa) (tCons (lE X.K G T wb) tNil)) (pa_cons ha (pa_cons hb pa_nil hsb) hsa)) (pg_tup hc hg hn hst) hs hw hh) fun D σ H h => by
    obtain ⟨W, ρ, R, Z, ok, h, h1, hZ⟩ := lS_parT h
    refine ⟨W, ρ, R, Z, ok, h, fun d ρ1 W1 x H1 hr g r => ?_, hZ⟩
    obtain ⟨W', ρ', R', Z', ok', h', h1', hZ'⟩ := h1 d ρ1 W1 x H1 hr g r
    exact ⟨W', ρ', R', Z', ok', h', fun d ρ1 W1 y H1 hr g r => ⟨by show 2 ≤ sizeLine; decide, fun p hp => ⟨p, [x, y], rfl, SqT.of upd_same, rfl, x, [y], rfl, y, [], rfl, rfl, h1' d ρ1 W1 y H1 hr g r p hp⟩⟩, hZ'⟩
theorem lS_parT3 {K : PySem.W.Frag} {σ : L2.St} {H : Hp} {D : Ends} {i j l : Nat} (h : lS K G T (wPar3 i j l wa wb wc) D σ H) : lE K G T wa σ H fun x H1 => lE K G T wb σ H1 fun y H2 => lE K G T wc σ H2 fun z H3 => ∀ p, H3 p = none → D.nx (((σ.set i (some x)).set j (some y)).set l (some z)) (upd H3 p (.tup [x, y, z])) := by
  obtain ⟨W, ρ, E, ok, h, hn, hr, hb, hc, hx⟩ := h
  refine ⟨W, ρ, _, E.ex, ok, h, fun d1 ρ1 W1 x H1 h1 g1 r1 => ?_, hx.z σ ρ⟩
  refine ⟨W1, ρ1, _, E.ex, g1.ok, h1, fun d2 ρ2 W2 y H2 h2 g2 r2 => ?_, (hx.z σ ρ).go g1⟩
  refine ⟨W2, ρ2, _, E.ex, g2.ok, h2, fun d3 ρ3 W3 z H3 h3 g3 r3 p hp => ?_, ((hx.z σ ρ).go g1).go g2⟩
  have a1 := (r1.go ok g1 g2)
  have g12 := g1.trans g2
  have g4 := Go.new (o := .tup [x, y, z]) g3.ok hp
  have a1' := a1.go ok g12 (g3.trans g4)
  have a2' := r2.go g1.ok g2 (g3.trans g4)
  have a3' := r3.go g2.ok g3 g4
  have g123 := (g12.trans g3).trans g4
  have f1 := g123.fr ok a1'
  have f2 := (g2.trans (g3.trans g4)).fr g1.ok a2'
  have f3 := (g3.trans g4).fr g2.ok a3'
  have ne12 : ∀ p, d1.isOwn = true → x = .ref p → d2.isOwn = true → y = .ref p → False := fun p o1 e1 o2 e2 => by
    obtain ⟨q, u, q1, q2⟩ := r1.rs.ow o1
    rw [e1] at q1; cases q1
    rw [(r2.fr o2 p e2).2.2] at q2; cases q2
  have ne13 : ∀ p, d1.isOwn = true → x = .ref p → d3.isOwn = true → z = .ref p → False := fun p o1 e1 o2 e2 => by
    obtain ⟨q, u, q1, q2⟩ := a1.rs.ow o1
    rw [e1] at q1; cases q1
    rw [(r3.fr o2 p e2).2.2] at q2; cases q2
  have ne23 : ∀ p, d2.isOwn = true → y = .ref p → d3.isOwn = true → z = .ref p → False := fun p o1 e1 o2 e2 => by
    obtain ⟨q, u, q1, q2⟩ := r2.rs.ow o1
    rw [e1] at q1; cases q1
    rw [(r3.fr o2 p e2).2.2] at q2; cases q2
  have k1 := g123.ok.set (i := i) a1'.rs f1
  have k2 := k1.set (i := j) a2'.rs fun o p e => ⟨(f2 o p e).1, (f2 o p e).2.1, (f2 o p e).2.2.1, fun q => (ow_set g123.ok.len q).elim (fun q => ne12 p q.1 q.2 o e) (f2 o p e).2.2.2⟩
  have k3 := k2.set (i := l) a3'.rs fun o p e => ⟨(f3 o p e).1, (f3 o p e).2.1, (f3 o p e).2.2.1, fun q => (ow_set k1.len q).elim (fun q => ne23 p q.1 q.2 o e) fun q => (ow_set g123.ok.len q).elim (fun q => ne13 p q.1 q.2 o e) (f3 o p e).2.2.2⟩
  exact hn _ W3 _ _ h3 k3 g123.stp.le
theorem ds_parT3 {i j l : Nat} {x y z : Str} {px py pz pt : Pos} {kt k2 pt2} (hN : X.N.Nodup) (ha : DE X G T a wa) (hb : DE X G T b wb) (hcc : DE X G T c wc) (hg : PGs X [.Name x px, .Name y py, .Name z pz] (gNames [i, j, l])) (hc : X.calm = true := by rfl)
    (hs : swapsWithSole [.Tuple [.Name x px, .Name y py, .Name z pz] kt pt] (.Tuple [a, b, c] k2 pt2) pos.line X.env = pure false := by rfl) (hw : swappedStores [.Tuple [.Name x px, .Name y py, .Name z pz] kt pt] (.Tuple [a, b, c] k2 pt2) X.env = pure none := by rfl)
    (hh : (assignEach [.Tuple [.Name x px, .Name y py, .Name z pz] kt pt] X.env).map (·.2) = [assign (.Tuple [.Name x px, .Name y py, .Name z pz] kt pt) X.env] := by rfl) (hn : (assignEach [.Name x px, .Name y py, .Name z pz] X.env).length = 3 := by rfl) (hst : (assignEach [.Name x px, .Name y py, .Name z pz] X.env).findIdx? (·.1) = none := by rfl)
    (hsa : starEach (a :: [b, c]) X.env = (false, eval a X.env) :: starEach [b, c] X.env := by rfl) (hsb : starEach (b :: [c]) X.env = (false, eval b X.env) :: starEach [c] X.env := by rfl) (hsc : starEach [c] X.env = (false, eval c X.env) :: starEach [] X.env := by rfl) :
    DS X G T (.Assign [.Tuple [.Name x px, .Name y py, .Name z pz] kt pt] (.Tuple [a, b, c] k2 pt2) pos) (wPar3 i j l wa wb wc) :=
  ps_weak (ps_asg (pe_tup (t := tCons (lE X.K G T wa) (tCons (lE X.K G T wb) (tCons (lE X.K G T wc) tNil))) (pa_cons ha (pa_cons hb (pa_cons hcc pa_nil hsc) hsb) hsa)) (pg_tup hc hg hn hst) hs hw hh) fun D σ H h => by
    obtain ⟨W, ρ, R, Z, ok, h, h1, hZ⟩ := lS_parT3 h
    refine ⟨W, ρ, R, Z, ok, h, fun d ρ1 W1 x H1 hr g r => ?_, hZ⟩
    obtain ⟨W', ρ', R', Z', ok', h', h1', hZ'⟩ := h1 d ρ1 W1 x H1 hr g r
    refine ⟨W', ρ', R', Z', ok', h', fun d ρ1 W1 y H1 hr g r => ?_, hZ'⟩
    obtain ⟨W3, ρ3, R3, Z3, ok3, h3, h13, hZ3⟩ := h1' d ρ1 W1 y H1 hr g r
    exact ⟨W3, ρ3, R3, Z3, ok3, h3, fun d ρ1 W1 z H1 hr g r => ⟨by show 3 ≤ sizeLine; decide, fun p hp => ⟨p, [x, y, z], rfl, SqT.of upd_same, rfl, x, [y, z], rfl, y, [z], rfl, z, [], rfl, rfl, h13 d ρ1 W1 z H1 hr g r p hp⟩⟩, hZ3⟩
end
end DL

/-! DL7: how readings over data are shown. -/
namespace DL
open PySem PySem.Spec L2
variable {E : DEnds} {ρ : Rho} {Z : ZK} {R : S → Rho → Prop} {u v : WS} {w wa wb wc : WE} {t t' : WT} {i j : Nat}
section
@[simp] theorem x_seq : wSeq u v E ρ = u { E with nx := v E } ρ := rfl
@[simp] theorem x_next : wNext E ρ = E.nx ρ := rfl
@[simp] theorem x_brk : wBrk E ρ = E.bk ρ := rfl
@[simp] theorem x_cnt : wCnt E ρ = E.ct ρ := rfl
@[simp] theorem x_drop : wDrop w E ρ = w E.ex ρ fun _ ρ' => E.nx ρ' := rfl
@[simp] theorem x_ret : wRet w E ρ = w E.ex ρ fun d _ => E.rt d := rfl
@[simp] theorem x_retN : wRetN E ρ = E.rt (.d .non) := rfl
@[simp] theorem x_if : wIf t u v E ρ = t E.ex ρ fun c ρ1 => if c = true then u E ρ1 else v E ρ1 := rfl
@[simp] theorem x_set : wSet i w E ρ = w E.ex ρ fun d ρ' => E.nx (ρ'.set i (some d)) := rfl
@[simp] theorem x_par : wPar i j wa wb E ρ = wa E.ex ρ fun x ρ1 => wb E.ex ρ1 fun y ρ2 => E.nx ((ρ2.set i (some x)).set j (some y)) := rfl
@[simp] theorem x_asgN {f : TgF} : wAsgN f w E ρ = w E.ex ρ fun d ρ' => f d.frz fun l => E.nx (storesR ρ' l) := rfl
@[simp] theorem x_for {wi : WI} {f : TgF} : wFor wi f u E ρ = wi E.ex ρ fun ds ρ1 => wForL f u E ds ρ1 := rfl
@[simp] theorem x_var : wVar i Z ρ R = (match ρ[i]? with | some (some d) => R (.d d.frz) (if d.isOwn = true then ρ.set i (some (.d d.frz)) else ρ) | _ => False) := rfl
@[simp] theorem x_c {d : D} : wC d Z ρ R = R (.d d) ρ := rfl
@[simp] theorem x_bin {f : D → D → (S → Prop) → Prop} : wBin f wa wb Z ρ R = wa Z ρ fun x ρ1 => wb Z ρ1 fun y ρ2 => f x.frz y.frz fun z => R z ρ2 := rfl
@[simp] theorem x_un {f : D → (S → Prop) → Prop} : wUn f wa Z ρ R = wa Z ρ fun x ρ1 => f x.frz fun z => R z ρ1 := rfl
@[simp] theorem x_b {R : Bool → Rho → Prop} : wB w Z ρ R = w Z ρ fun d ρ' => d.isB fun b => R b ρ' := rfl
@[simp] theorem x_and {R : Bool → Rho → Prop} : wAnd t t' Z ρ R = t Z ρ fun c ρ1 => if c = true then t' Z ρ1 R else R false ρ1 := rfl
@[simp] theorem x_or {R : Bool → Rho → Prop} : wOr t t' Z ρ R = t Z ρ fun c ρ1 => if c = true then R true ρ1 else t' Z ρ1 R := rfl
@[simp] theorem x_not {R : Bool → Rho → Prop} : wNot t Z ρ R = t Z ρ fun c ρ1 => R (!c) ρ1 := rfl
@[simp] theorem x_andV : wAndV wa wb Z ρ R = wa Z ρ fun x ρ1 => x.isB fun c => if c = true then wb Z ρ1 R else R (.d (.bl false)) ρ1 := rfl
@[simp] theorem x_orV : wOrV wa wb Z ρ R = wa Z ρ fun x ρ1 => x.isB fun c => if c = true then R (.d (.bl true)) ρ1 else wb Z ρ1 R := rfl
@[simp] theorem x_notV : wNotV wa Z ρ R = wa Z ρ fun x ρ1 => x.isB fun c => R (.d (.bl (!c))) ρ1 := rfl
@[simp] theorem x_ifE : wIfE t wa wb Z ρ R = t Z ρ fun c ρ1 => if c = true then wa Z ρ1 R else wb Z ρ1 R := rfl
@[simp] theorem x_nil {R : List D → Rho → Prop} : wNil Z ρ R = R [] ρ := rfl
@[simp] theorem x_cons {u : WA} {R : List D → Rho → Prop} : wCons w u Z ρ R = w Z ρ fun x ρ1 => u Z ρ1 fun xs ρ2 => R (x.frz :: xs) ρ2 := rfl
@[simp] theorem x_tup {u : WA} : wTup u Z ρ R = u Z ρ fun ds ρ1 => ds.length ≤ sizeLine ∧ R (.d (.tup ds)) ρ1 := rfl
@[simp] theorem x_lst {u : WA} : wLst u Z ρ R = u Z ρ fun ds ρ1 => ds.length ≤ sizeLine ∧ R (.own ds) ρ1 := rfl
@[simp] theorem x_callB {f : List D → (S → Prop) → Prop} {u : WA} : wCallB f u Z ρ R = u Z ρ fun ds ρ1 => f ds fun z => R z ρ1 := rfl
@[simp] theorem x_call {n : Nat} {wf : WF} {u : WA} : wCall n wf u Z ρ R = u Z ρ fun ds ρ1 => ds.length = n ∧ wf (fun x => Z x ρ1) ds fun s => R s ρ1 := rfl
@[simp] theorem x_callK {n n1 n2 : Nat} {is : List Nat} {wf : WF} {u uk : WA} : wCallK n n1 n2 is wf u uk Z ρ R = u Z ρ fun ds ρ1 => ds.length = n1 ∧ uk Z ρ1 fun es ρ2 => es.length = n2 ∧ (permL .non is (ds ++ es)).length = n ∧ (∀ i ∈ is, i < (ds ++ es).length) ∧ wf (fun x => Z x ρ2) (permL .non is (ds ++ es)) fun s => R s ρ2 := rfl
@[simp] theorem x_ixV : wIxV i w Z ρ R = ((∃ s0, ρ[i]? = some (some s0)) ∧ w Z ρ fun k ρ1 => match ρ1[i]? with | some (some s) => fIx s.frz k.frz fun z => R z ρ1 | _ => False) := rfl
@[simp] theorem x_lenV : wLenV i Z ρ R = (match ρ[i]? with | some (some s) => fLen [s.frz] fun z => R z ρ | _ => False) := rfl
@[simp] theorem x_opV {f : D → D → (S → Prop) → Prop} : wOpV i f wb Z ρ R = ((∃ s0, ρ[i]? = some (some s0)) ∧ wb Z ρ fun y ρ1 => match ρ1[i]? with | some (some s) => f s.frz y.frz fun z => R z ρ1 | _ => False) := rfl
@[simp] theorem x_opW {f : D → D → (S → Prop) → Prop} : wOpW wa i f Z ρ R = (wa Z ρ fun x ρ1 => match ρ1[i]? with | some (some s) => f x.frz s.frz fun z => R z ρ1 | _ => False) := rfl
@[simp] theorem x_app : wApp i w E ρ = ((∃ d0, ρ[i]? = some (some (.own d0))) ∧ w E.ex ρ fun d ρ1 => match ρ1[i]? with | some (some (.own ds)) => ds.length < sizeLine ∧ E.nx (ρ1.set i (some (.own (ds ++ [d.frz])))) | _ => False) := rfl
@[simp] theorem x_setIx {wk : WE} : wSetIx i wk w E ρ = (w E.ex ρ fun d ρ1 => (∃ s0, ρ1[i]? = some (some s0)) ∧ wk E.ex ρ1 fun k ρ2 => match ρ2[i]? with | some (some s) => sIx s k.frz d.frz fun s' => E.nx (if s.isOwn = true then ρ2.set i (some s') else ρ2) | _ => False) := rfl
@[simp] theorem x_items {N : List D → Rho → Prop} : wItems w Z ρ N = w Z ρ fun d ρ' => ∃ ds, d.frz.items = some ds ∧ N ds ρ' := rfl
@[simp] theorem x_rng {f : List D → (List D → Prop) → Prop} {u : WA} {N : List D → Rho → Prop} : wRng f u Z ρ N = u Z ρ fun ds ρ' => f ds fun l => N l ρ' := rfl
@[simp] theorem x_yes {R : Bool → Rho → Prop} : wYes Z ρ R = R true ρ := rfl
@[simp] theorem x_lc {wi : WI} {f : TgF} {vs : List Nat} : wLc wi f t w vs Z ρ R = wi Z ρ fun ds ρ1 => NoOwn ρ1 vs ∧ wLcL f t w (wipeR ρ1 vs) (fun acc => R (.own acc) ρ1) ds [] := rfl
@[simp] theorem x_sl {wl wh : WO} : wSl w wl wh Z ρ R = w Z ρ fun d ρ1 => wl Z ρ1 fun lo ρ2 => wh Z ρ2 fun hi ρ3 => fSl d.frz lo hi fun z => R z ρ3 := rfl
@[simp] theorem x_nop {R : Option Int → Rho → Prop} : wNoP Z ρ R = R none ρ := rfl
@[simp] theorem x_part {R : Option Int → Rho → Prop} : wPart w Z ρ R = w Z ρ fun d ρ' => match d.frz with | .int i => R (some i) ρ' | _ => False := rfl
@[simp] theorem x_chain {f f' : D → D → (S → Prop) → Prop} : wChain f f' wa wb wc Z ρ R = wa Z ρ fun x ρ1 => wb Z ρ1 fun y ρ2 => f x.frz y.frz fun z => z.isB fun k => if k = true then wc Z ρ2 fun u ρ3 => f' y.frz u.frz fun z => R z ρ3 else R (.d (.bl false)) ρ2 := rfl
@[simp] theorem s_frz_d {d : D} : (S.d d).frz = d := rfl
@[simp] theorem s_frz_own {ds : List D} : (S.own ds).frz = .lst ds := rfl
@[simp] theorem s_own_d {d : D} : (S.d d).isOwn = false := rfl
@[simp] theorem s_own_own {ds : List D} : (S.own ds).isOwn = true := rfl
@[simp] theorem s_isB {b : Bool} {R : Bool → Prop} : (S.d (.bl b)).isB R = R b := rfl
@[simp] theorem s_i2 {g : Int → Int → D} {a b : Int} {R : S → Prop} : fI2 g (.int a) (.int b) R = R (.d (g a b)) := rfl
@[simp] theorem s_sub {a b : Int} {R : S → Prop} : fSub (.int a) (.int b) R = R (.d (.int (a - b))) := rfl
@[simp] theorem s_addI {a b : Int} {R : S → Prop} : fAdd (.int a) (.int b) R = R (.d (.int (a + b))) := rfl
@[simp] theorem s_addT {a b : List D} {R : S → Prop} : fAdd (.tup a) (.tup b) R = (a.length + b.length ≤ sizeLine ∧ R (.d (.tup (a ++ b)))) := rfl
@[simp] theorem s_addL {a b : List D} {R : S → Prop} : fAdd (.lst a) (.lst b) R = (a.length + b.length ≤ sizeLine ∧ R (.own (a ++ b))) := rfl
@[simp] theorem s_mulI {a b : Int} {R : S → Prop} : fMul (.int a) (.int b) R = (MulOk a b ∧ R (.d (.int (a * b)))) := rfl
@[simp] theorem s_divI {a b : Int} {R : S → Prop} : fDiv (.int a) (.int b) R = (DivOk a b ∧ R (.d (.int (a.fdiv b)))) := rfl
@[simp] theorem s_modI {a b : Int} {R : S → Prop} : fMod (.int a) (.int b) R = (b ≠ 0 ∧ R (.d (.int (a.fmod b)))) := rfl
@[simp] theorem s_powI {a b : Int} {R : S → Prop} : fPow (.int a) (.int b) R = (CPow a b ∧ R (.d (.int (a ^ b.toNat)))) := rfl
@[simp] theorem s_neg {a : Int} {R : S → Prop} : fNeg (.int a) R = R (.d (.int (-a))) := rfl
@[simp] theorem s_eqI {a b : Int} {R : S → Prop} : fEq (.int a) (.int b) R = R (.d (.bl (a == b))) := by
  unfold fEq; simp [D.cmpOk, D.okSc, D.scl, D.eqb, D.py, PyData.eqv]
@[simp] theorem s_neI {a b : Int} {R : S → Prop} : fNe (.int a) (.int b) R = R (.d (.bl (!(a == b)))) := by
  unfold fNe; simp [D.cmpOk, D.okSc, D.scl, D.eqb, D.py, PyData.eqv]
@[simp] theorem s_int1 {a : Int} {R : S → Prop} : fInt [.int a] R = R (.d (.int a)) := rfl
@[simp] theorem s_abs {a : Int} {R : S → Prop} : fAbs [.int a] R = R (.d (.int (if a < 0 then -a else a))) := rfl
@[simp] theorem s_max2 {a b : Int} {R : S → Prop} : fMax2 [.int a, .int b] R = R (.d (.int (if b > a then b else a))) := rfl
@[simp] theorem s_min2 {a b : Int} {R : S → Prop} : fMin2 [.int a, .int b] R = R (.d (.int (if b < a then b else a))) := rfl
@[simp] theorem s_lenT {ds : List D} {R : S → Prop} : fLen [.tup ds] R = R (.d (.int ds.length)) := by simp [fLen, D.items]
@[simp] theorem s_lenL {ds : List D} {R : S → Prop} : fLen [.lst ds] R = R (.d (.int ds.length)) := by simp [fLen, D.items]
@[simp] theorem s_lenR {ds : List D} {R : S → Prop} : fLen [.rls ds] R = R (.d (.int ds.length)) := by simp [fLen, D.items]
@[simp] theorem s_tupL {ds : List D} {R : S → Prop} : fTuple [.lst ds] R = R (.d (.tup ds)) := by simp [fTuple, D.items]
@[simp] theorem s_tupT {ds : List D} {R : S → Prop} : fTuple [.tup ds] R = R (.d (.tup ds)) := by simp [fTuple, D.items]
@[simp] theorem s_lstT {ds : List D} {R : S → Prop} : fList [.tup ds] R = R (.own ds) := by simp [fList, D.items]
@[simp] theorem s_lstL {ds : List D} {R : S → Prop} : fList [.lst ds] R = R (.own ds) := by simp [fList, D.items]
@[simp] theorem i_t {ds : List D} : (D.tup ds).items = some ds := rfl
@[simp] theorem i_l {ds : List D} : (D.lst ds).items = some ds := rfl
@[simp] theorem i_r {ds : List D} : (D.rls ds).items = some ds := rfl
@[simp] theorem f_name {i : Nat} {d : D} {N : List (Nat × D) → Prop} : fName i d N = N [(i, d)] := rfl
@[simp] theorem f_tup {is : List Nat} {ds : List D} {N : List (Nat × D) → Prop} : fTupN is (.tup ds) N = (ds.length = is.length ∧ N (is.zip ds)) := rfl
@[simp] theorem st_nil {ρ : Rho} : storesR ρ [] = ρ := rfl
@[simp] theorem st_cons {ρ : Rho} {p : Nat × D} {l : List (Nat × D)} : storesR ρ (p :: l) = storesR (ρ.set p.1 (some (.d p.2))) l := rfl
@[simp] theorem wi_nil {ρ : Rho} : wipeR ρ [] = ρ := rfl
@[simp] theorem wi_cons {ρ : Rho} {i : Nat} {is : List Nat} : wipeR ρ (i :: is) = (wipeR ρ is).set i none := rfl
@[simp] theorem isN_non {R : Bool → Prop} : D.isNon .non R = R true := rfl
@[simp] theorem isN_tup {ds : List D} {R : Bool → Prop} : D.isNon (.tup ds) R = R false := rfl
@[simp] theorem isN_int {i : Int} {R : Bool → Prop} : D.isNon (.int i) R = R false := rfl
@[simp] theorem isN_lst {ds : List D} {R : Bool → Prop} : D.isNon (.lst ds) R = R false := rfl
@[simp] theorem isN_str {s : Str} {R : Bool → Prop} : D.isNon (.str s) R = R false := rfl
end
/-- what is never come to -/
def wNever : WS := fun _ _ => False
theorem ds_never {X : Cx} {G : Gx} {T : WX} {st : Stmt} : DS X G T st wNever := ps_weak ps_never fun D σ H ⟨W, ρ, E, ok, h, _⟩ => h.elim
@[simp] theorem x_never : wNever E ρ = False := rfl
/-- x is None, x is not None -/
def fIs (d : D) (R : S → Prop) : Prop := d.isNon fun b => R (.d (.bl b))
def fIsn (d : D) (R : S → Prop) : Prop := d.isNon fun b => R (.d (.bl (!b)))
@[simp] theorem x_is {d : D} {R : S → Prop} : fIs d R = d.isNon fun b => R (.d (.bl b)) := rfl
@[simp] theorem x_isn {d : D} {R : S → Prop} : fIsn d R = d.isNon fun b => R (.d (.bl (!b))) := rfl
/-! ### loops -/
theorem for_inv {f : TgF} {b : WS} (I : List D → Rho → Prop) : ∀ {ds : List D} {ρ : Rho}, I ds ρ → (∀ d ds' ρ (N : Rho → Prop), I (d :: ds') ρ → (∀ ρ', I ds' ρ' → N ρ') → f d fun l => b { E with nx := N, ct := N, bk := E.nx } (storesR ρ l)) →
    (∀ ρ, I [] ρ → E.nx ρ) → wForL f b E ds ρ
  | [], ρ, h, _, hd => hd ρ h
  | d :: ds, ρ, h, hs, hd => hs d ds ρ _ h fun ρ' h' => for_inv I h' hs hd
theorem while_inv {b : WS} (I : Rho → Prop) (μ : Rho → Nat) (h : I ρ) (hs : ∀ ρ (N : Rho → Prop), I ρ → (∀ ρ', I ρ' → μ ρ' < μ ρ → N ρ') → t E.ex ρ fun c ρ1 => if c = true then b { E with nx := N, ct := N, bk := E.nx } ρ1 else E.nx ρ1) : wWhile t b E ρ := by
  have key : ∀ (n : Nat) (ρ : Rho), I ρ → μ ρ < n → wWhileN t b E n ρ := fun n => by
    induction n with
    | zero => intro ρ _ h; exact absurd h (Nat.not_lt_zero _)
    | succ n ih => intro ρ hI hl; exact hs ρ _ hI fun ρ' h' l' => ih ρ' h' (by omega)
  exact ⟨μ ρ + 1, key _ ρ h (Nat.lt_succ_self _)⟩
/-- one turn of a comprehension -/
def lcStep (f : TgF) (t : WT) (e : WE) (ρ : Rho) (d : D) (acc : List D) (K : List D → Prop) : Prop :=
  f d fun l => t noZ (storesR ρ l) fun b ρ3 => ρ3 = storesR ρ l ∧ if b = true then e noZ (storesR ρ l) fun y ρ4 => ρ4 = storesR ρ l ∧ acc.length < sizeLine ∧ K (acc ++ [y.frz]) else K acc
theorem lc_rel {f : TgF} {e : WE} {R : List D → Prop} (P : D → List D → Prop) : ∀ {ds acc : List D}, (∀ d ∈ ds, ∀ (acc : List D) (K : List D → Prop), acc.length < sizeLine → (∀ ys, P d ys → ys.length ≤ 1 → K (acc ++ ys)) → lcStep f t e ρ d acc K) → acc.length + ds.length ≤ sizeLine →
    (∀ yss : List (List D), Paired P ds yss → R (acc ++ yss.flatten)) → wLcL f t e ρ R ds acc
  | [], acc, _, _, hR => by
    have := hR [] .nil
    rw [List.flatten_nil, List.append_nil] at this
    exact this
  | d :: ds, acc, hs, hl, hR => hs d (List.mem_cons_self ..) acc _ (by simp at hl; omega) fun ys hy l1 => lc_rel P (fun d' h' => hs d' (List.mem_cons_of_mem _ h')) (by simp at hl ⊢; omega) fun yss h' => by
      have := hR (ys :: yss) (.cons hy h')
      simpa [List.append_assoc] using this
theorem lc_map {f : TgF} {e : WE} {R : List D → Prop} (g : D → D) {ds : List D} (hs : ∀ d ∈ ds, ∀ (acc : List D) (K : List D → Prop), acc.length < sizeLine → K (acc ++ [g d]) → lcStep f t e ρ d acc K) (hl : ds.length ≤ sizeLine) (hR : R (ds.map g)) : wLcL f t e ρ R ds [] := by
  refine lc_rel (fun d ys => ys = [g d]) (fun d hd acc K ha k => hs d hd acc K ha (k _ rfl (by simp))) (by simpa using hl) fun yss h => ?_
  have : yss.flatten = ds.map g := by
    clear hs hl hR
    induction h with
    | nil => rfl
    | cons h1 _ ih => rw [h1]; simp [ih]
  simpa [this] using hR
theorem lc_filterMap {f : TgF} {e : WE} {R : List D → Prop} (g : D → Option D) {ds : List D} (hs : ∀ d ∈ ds, ∀ (acc : List D) (K : List D → Prop), acc.length < sizeLine → K (acc ++ (g d).toList) → lcStep f t e ρ d acc K) (hl : ds.length ≤ sizeLine) (hR : R (ds.filterMap g)) : wLcL f t e ρ R ds [] := by
  refine lc_rel (fun d ys => ys = (g d).toList) (fun d hd acc K ha k => hs d hd acc K ha (k _ rfl (by cases g d <;> simp))) (by simpa using hl) fun yss h => ?_
  have : yss.flatten = ds.filterMap g := by
    clear hs hl hR
    induction h with
    | nil => rfl
    | cons h1 _ ih =>
      rename_i d ys ds yss _
      rw [h1, List.flatten_cons, ih]
      cases e : g d <;> simp [e]
  simpa [this] using hR
theorem lcStep_eq {f : TgF} {e : WE} {d : D} {acc : List D} {K : List D → Prop} : lcStep f t e ρ d acc K = f d fun l => t noZ (storesR ρ l) fun b ρ3 => ρ3 = storesR ρ l ∧ if b = true then e noZ (storesR ρ l) fun y ρ4 => ρ4 = storesR ρ l ∧ acc.length < sizeLine ∧ K (acc ++ [y.frz]) else K acc := rfl
theorem noOwn_of {ρ : Rho} {vs : List Nat} (h : (vs.all fun i => match ρ[i]? with | some (some d) => !d.isOwn | _ => true) = true) : NoOwn ρ vs := fun i hi d e => by
  have := List.all_eq_true.mp h i hi
  rw [e] at this
  simpa using this
end DL

/-! DL8: isinstance by constructors, small facts. -/
namespace DL
open PySem PySem.Spec L2
theorem kb_1 : kitB "NoneType" "int" = some false := by decide +kernel
theorem kb_2 : kitB "bool" "int" = some true := by decide +kernel
theorem kb_3 : kitB "int" "int" = some true := by decide +kernel
theorem kb_4 : kitB "str" "int" = some false := by decide +kernel
theorem kb_5 : kitB "tuple" "int" = some false := by decide +kernel
theorem kb_6 : kitB "list" "int" = some false := by decide +kernel
theorem kb_7 : kitB "dict" "int" = some false := by decide +kernel
theorem kb_8 : kitB "NoneType" "bool" = some false := by decide +kernel
theorem kb_9 : kitB "bool" "bool" = some true := by decide +kernel
theorem kb_10 : kitB "int" "bool" = some false := by decide +kernel
theorem kb_11 : kitB "str" "bool" = some false := by decide +kernel
theorem kb_12 : kitB "tuple" "bool" = some false := by decide +kernel
theorem kb_13 : kitB "list" "bool" = some false := by decide +kernel
theorem kb_14 : kitB "dict" "bool" = some false := by decide +kernel
theorem kb_15 : kitB "NoneType" "tuple" = some false := by decide +kernel
theorem kb_16 : kitB "bool" "tuple" = some false := by decide +kernel
theorem kb_17 : kitB "int" "tuple" = some false := by decide +kernel
theorem kb_18 : kitB "str" "tuple" = some false := by decide +kernel
theorem kb_19 : kitB "tuple" "tuple" = some true := by decide +kernel
theorem kb_20 : kitB "list" "tuple" = some false := by decide +kernel
theorem kb_21 : kitB "dict" "tuple" = some false := by decide +kernel
theorem kb_22 : kitB "NoneType" "str" = some false := by decide +kernel
theorem kb_23 : kitB "bool" "str" = some false := by decide +kernel
theorem kb_24 : kitB "int" "str" = some false := by decide +kernel
theorem kb_25 : kitB "str" "str" = some true := by decide +kernel
theorem kb_26 : kitB "tuple" "str" = some false := by decide +kernel
theorem kb_27 : kitB "list" "str" = some false := by decide +kernel
theorem kb_28 : kitB "dict" "str" = some false := by decide +kernel
def D.known (d : D) : Bool := d.tyName.isSome
def D.isI : D → Bool
  | .int _ => true
  | _ => false
def D.isT : D → Bool
  | .tup _ => true
  | _ => false
def D.isS : D → Bool
  | .str _ => true
  | _ => false
def D.isBl : D → Bool
  | .bl _ => true
  | _ => false
theorem isi_int {d : D} {R : S → Prop} (h : d.known = true) : fIsi [d, .v (.ty "int")] R = R (.d (.bl (d.isI || d.isBl))) := by
  cases d <;> first | (cases h; done) | simp [fIsi, D.tyName, D.isI, D.isBl, kb_1, kb_2, kb_3, kb_4, kb_5, kb_6, kb_7]
theorem isi_bool {d : D} {R : S → Prop} (h : d.known = true) : fIsi [d, .v (.ty "bool")] R = R (.d (.bl d.isBl)) := by
  cases d <;> first | (cases h; done) | simp [fIsi, D.tyName, D.isBl, kb_8, kb_9, kb_10, kb_11, kb_12, kb_13, kb_14]
theorem isi_tuple {d : D} {R : S → Prop} (h : d.known = true) : fIsi [d, .v (.ty "tuple")] R = R (.d (.bl d.isT)) := by
  cases d <;> first | (cases h; done) | simp [fIsi, D.tyName, D.isT, kb_15, kb_16, kb_17, kb_18, kb_19, kb_20, kb_21]
theorem isi_str {d : D} {R : S → Prop} (h : d.known = true) : fIsi [d, .v (.ty "str")] R = R (.d (.bl d.isS)) := by
  cases d <;> first | (cases h; done) | simp [fIsi, D.tyName, D.isS, kb_22, kb_23, kb_24, kb_25, kb_26, kb_27, kb_28]
@[simp] theorem known_int {i : Int} : (D.int i).known = true := rfl
@[simp] theorem known_tup {ds : List D} : (D.tup ds).known = true := rfl
@[simp] theorem known_str {s : Str} : (D.str s).known = true := rfl
@[simp] theorem known_bl {b : Bool} : (D.bl b).known = true := rfl
@[simp] theorem known_non : D.non.known = true := rfl
@[simp] theorem known_lst {ds : List D} : (D.lst ds).known = true := rfl
theorem mapInj {α β : Type} {f : α → β} (hf : ∀ a b, f a = f b → a = b) : ∀ {a b : List α}, a.map f = b.map f → a = b
  | [], [], _ => rfl
  | [], _ :: _, h => by cases h
  | _ :: _, [], h => by cases h
  | x :: xs, y :: ys, h => by
    rw [List.map_cons, List.map_cons] at h
    injection h with h1 h2
    rw [hf _ _ h1, mapInj hf h2]
/-! ### all and any of tests -/
@[simp] theorem s_allB {bs : List Bool} {R : S → Prop} : fAll [.lst (bs.map .bl)] R = R (.d (.bl (bs.all id))) := by
  unfold fAll
  refine propext ⟨fun ⟨cs, e, h⟩ => ?_, fun h => ⟨bs, rfl, h⟩⟩
  have e' : bs.map D.bl = cs.map D.bl := by injection e with e _; injection e
  have : bs = cs := mapInj (fun a b h => by injection h) e'
  rwa [this]
@[simp] theorem s_anyB {bs : List Bool} {R : S → Prop} : fAny [.lst (bs.map .bl)] R = R (.d (.bl (bs.any id))) := by
  unfold fAny
  refine propext ⟨fun ⟨cs, e, h⟩ => ?_, fun h => ⟨bs, rfl, h⟩⟩
  have e' : bs.map D.bl = cs.map D.bl := by injection e with e _; injection e
  have : bs = cs := mapInj (fun a b h => by injection h) e'
  rwa [this]
theorem all_map {α : Type} {ds : List α} {p : α → Bool} {R : S → Prop} : fAll [.lst (ds.map fun d => .bl (p d))] R = R (.d (.bl (ds.all p))) := by
  have : (ds.map fun d => D.bl (p d)) = (ds.map p).map .bl := by simp
  rw [this, s_allB]
  simp [List.all_map]
theorem any_map {α : Type} {ds : List α} {p : α → Bool} {R : S → Prop} : fAny [.lst (ds.map fun d => .bl (p d))] R = R (.d (.bl (ds.any p))) := by
  have : (ds.map fun d => D.bl (p d)) = (ds.map p).map .bl := by simp
  rw [this, s_anyB]
  simp [List.any_map]
theorem int_inj {a b : List Int} (h : a.map D.int = b.map D.int) : a = b := mapInj (fun a b h => by injection h) h
@[simp] theorem s_sumL {ns : List Int} {R : S → Prop} : fSum [.lst (ns.map .int)] R = R (.d (.int ns.sum)) := by
  unfold fSum fInts
  refine propext ⟨fun ⟨ms, e, h⟩ => ?_, fun h => ⟨ns, .inl rfl, h⟩⟩
  rcases e with e | e
  · have : ns = ms := int_inj (by injection e with e _; injection e)
    rwa [this]
  · injection e with e _; cases e
theorem sl0 {α : Type} (l : List α) (n : Nat) (h : n ≤ 1000) (e : l.length ≤ n) : l.length ≤ sizeLine := Nat.le_trans e (Nat.le_trans h (by decide))
theorem sizeLine_big : 1000000 ≤ sizeLine := by decide
/-- the ints as data -/
abbrev tI (ns : List Int) : D := .tup (ns.map .int)
abbrev gI (ns : List Int) : D := .lst (ns.map .int)
theorem atI_pos {α : Type} {xs : List α} {i : Int} {x : α} (h0 : 0 ≤ i) (h : xs[i.toNat]? = some x) : L2.atI xs i = some x := by
  obtain ⟨n, rfl⟩ := Int.eq_ofNat_of_zero_le h0
  exact L2.atI_nat (by simpa using h)
theorem ix_tI {ns : List Int} {i x : Int} {R : S → Prop} (h0 : 0 ≤ i) (h : ns[i.toNat]? = some x) (hR : R (.d (.int x))) : fIx (tI ns) (.int i) R := by
  refine ⟨_, .int x, rfl, atI_pos h0 ?_, hR⟩
  rw [List.getElem?_map, h, Option.map_some]
theorem ix_gI {ns : List Int} {i x : Int} {R : S → Prop} (h0 : 0 ≤ i) (h : ns[i.toNat]? = some x) (hR : R (.d (.int x))) : fIx (gI ns) (.int i) R := by
  refine ⟨_, .int x, rfl, atI_pos h0 ?_, hR⟩
  rw [List.getElem?_map, h, Option.map_some]
theorem ix_tup {ds : List D} {i : Int} {x : D} {R : S → Prop} (h0 : 0 ≤ i) (h : ds[i.toNat]? = some x) (hR : R (.d x)) : fIx (.tup ds) (.int i) R := ⟨_, x, rfl, atI_pos h0 h, hR⟩
theorem ix_lst {ds : List D} {i : Int} {x : D} {R : S → Prop} (h0 : 0 ≤ i) (h : ds[i.toNat]? = some x) (hR : R (.d x)) : fIx (.lst ds) (.int i) R := ⟨_, x, rfl, atI_pos h0 h, hR⟩
theorem ix_lastL {ds : List D} {x : D} {R : S → Prop} (hR : R (.d x)) : fIx (.lst (ds ++ [x])) (.int (-1)) R := ⟨_, x, rfl, L2.atI_last ds x, hR⟩
theorem ix_lastT {ds : List D} {x : D} {R : S → Prop} (hR : R (.d x)) : fIx (.tup (ds ++ [x])) (.int (-1)) R := ⟨_, x, rfl, L2.atI_last ds x, hR⟩
theorem sl_0 : (0 ≤ sizeLine) = True := eq_true (by decide)
theorem sl_1 : (1 ≤ sizeLine) = True := eq_true (by decide)
theorem sl_2 : (2 ≤ sizeLine) = True := eq_true (by decide)
theorem sl_3 : (3 ≤ sizeLine) = True := eq_true (by decide)
theorem sl_4 : (4 ≤ sizeLine) = True := eq_true (by decide)
theorem sl_5 : (5 ≤ sizeLine) = True := eq_true (by decide)
theorem sl_6 : (6 ≤ sizeLine) = True := eq_true (by decide)
theorem sl_7 : (7 ≤ sizeLine) = True := eq_true (by decide)
theorem sl_8 : (8 ≤ sizeLine) = True := eq_true (by decide)
theorem lt_01 : ((0 : Nat) < 1) = True := eq_true (by decide)
theorem lt_02 : ((0 : Nat) < 2) = True := eq_true (by decide)
theorem lt_12 : ((1 : Nat) < 2) = True := eq_true (by decide)
theorem lt_03 : ((0 : Nat) < 3) = True := eq_true (by decide)
theorem lt_13 : ((1 : Nat) < 3) = True := eq_true (by decide)
theorem lt_23 : ((2 : Nat) < 3) = True := eq_true (by decide)
theorem x_par3 {E : DEnds} {ρ : Rho} {i j l : Nat} {wa wb wc : WE} : wPar3 i j l wa wb wc E ρ = wa E.ex ρ fun x ρ1 => wb E.ex ρ1 fun y ρ2 => wc E.ex ρ2 fun z ρ3 => E.nx (((ρ3.set i (some x)).set j (some y)).set l (some z)) := rfl
theorem x_ext {E : DEnds} {ρ : Rho} {i : Nat} {w : WE} : wExt i w E ρ = ((∃ d0, ρ[i]? = some (some (.own d0))) ∧ w E.ex ρ fun d ρ1 => match ρ1[i]?, d.frz with | some (some (.own ds)), .lst es => ds.length + es.length ≤ sizeLine ∧ E.nx (ρ1.set i (some (.own (ds ++ es)))) | _, _ => False) := rfl
theorem g_1 {j : Int} {N : List D → Prop} : rg1 [.int j] N = ((-(2 ^ 62) ≤ j ∧ j < 2 ^ 62) ∧ N (rangeD 0 j.toNat)) := rfl
theorem g_2 {i j : Int} {N : List D → Prop} : rg2 [.int i, .int j] N = ((-(2 ^ 62) ≤ i ∧ i < 2 ^ 62 ∧ -(2 ^ 62) ≤ j ∧ j < 2 ^ 62) ∧ N (rangeD i (j - i).toNat)) := rfl
theorem g_3 {i j c : Int} {N : List D → Prop} : rg3 [.int i, .int j, .int c] N = (∃ n, RgC i j c n ∧ N (rangeDC i c n)) := rfl
/-- a scalar asked at an index that is there -/
theorem ix_tIn {ns : List Int} {n : Nat} {R : S → Prop} (h : n < ns.length) (hR : R (.d (.int (ns.getD n 0)))) : fIx (tI ns) (.int n) R :=
  ix_tI (by omega) (by rw [Int.toNat_natCast, List.getD_eq_getElem?_getD, List.getElem?_eq_getElem h]; rfl) hR
theorem ix_tIi {ns : List Int} {i : Int} {n : Nat} {R : S → Prop} (e : i = n) (h : n < ns.length) (hR : R (.d (.int (ns.getD n 0)))) : fIx (tI ns) (.int i) R := by
  subst e
  exact ix_tIn h hR
end DL

/-! DL9: data that may be compared and shown. -/
namespace DL
open PySem PySem.Spec L2
mutual
/-- at most n deep, ints of at most 200 bits, good texts -/
def D.nice : Nat → D → Bool
  | _, .non => true
  | _, .bl _ => true
  | _, .int i => decide (i.natAbs < 2 ^ 200)
  | _, .str s => PyData.strOk s
  | n + 1, .tup ds => D.niceA n ds
  | n + 1, .lst ds => D.niceA n ds
  | n + 1, .rls ds => D.niceA n ds
  | _, _ => false
def D.niceA : Nat → List D → Bool
  | _, [] => true
  | n, d :: ds => D.nice n d && D.niceA n ds
end
mutual
def D.wt : D → Nat
  | .int _ => 200
  | .str s => s.cps.size
  | .tup ds => D.wtA ds
  | .lst ds => D.wtA ds
  | .rls ds => D.wtA ds
  | _ => 0
def D.wtA : List D → Nat
  | [] => 0
  | d :: ds => D.wt d + 1 + D.wtA ds
end
theorem showLen (i : Int) (h : (Nat.toDigits 10 i.natAbs).length ≤ 61) : (Str.ofString (toString i)).length ≤ 64 := by
  have nat : ∀ m : Nat, (Nat.toDigits 10 m).length ≤ 61 → (Str.ofString (toString (Int.ofNat m))).length ≤ 61 := fun m hm => by
    rw [PyProof.Rows.ofString_len]
    show (Nat.repr m).length ≤ 61
    simpa [Nat.repr] using hm
  by_cases z : i < 0
  · rw [PyProof.Rows.len_text_neg z]
    have e : (0 : Int) - i = Int.ofNat i.natAbs := by simp; omega
    have := nat i.natAbs h
    rw [e]; omega
  · have e : i = Int.ofNat i.natAbs := by simp; omega
    have := nat i.natAbs h
    rw [← e] at this; omega
mutual
theorem nice_of : ∀ (n : Nat) (d : D), d.nice n = true → d.isPy = true ∧ d.py.canLay0 = true ∧ d.py.depth ≤ n ∧ d.py.showable = true ∧ d.py.intsShort 64 = true ∧ d.py.weight ≤ d.wt
  | _, .non, _ => ⟨rfl, rfl, Nat.zero_le _, rfl, rfl, Nat.le_refl _⟩
  | _, .bl _, _ => ⟨rfl, rfl, Nat.zero_le _, rfl, rfl, Nat.le_refl _⟩
  | _, .int i, h => by
    have h : i.natAbs < 2 ^ 200 := of_decide_eq_true (by simpa only [D.nice] using h)
    have l : i ≠ 0 → i.natAbs.log2 < 200 := fun z => (Nat.log2_lt (by omega)).mpr h
    have d := PyProof.Rows.digits10_le (k := 61) (n := i.natAbs) (by decide) (Nat.lt_of_lt_of_le h (by decide +kernel))
    refine ⟨rfl, rfl, Nat.zero_le _, ?_, ?_, ?_⟩
    · by_cases z : i = 0
      · subst z; decide
      · simp only [D.py, PyData.showable, decide_eq_true_eq]; have := l z; omega
    · simp only [D.py, PyData.intsShort, decide_eq_true_eq, PyData.shown]
      exact decide_eq_true (showLen i d)
    · by_cases z : i = 0
      · subst z; decide
      · have := l z
        simp only [D.py, PyData.weight, D.wt]
        split <;> omega
  | _, .str s, h => ⟨rfl, by simpa only [D.py, PyData.canLay0, D.nice] using h, Nat.zero_le _, rfl, rfl, Nat.le_refl _⟩
  | n + 1, .tup ds, h => by
    obtain ⟨a, b, c, d, e, f⟩ := niceA_of n ds (by simpa only [D.nice] using h)
    exact ⟨a, by simpa only [D.py, PyData.canLay0] using b, by simp only [D.py, PyData.depth]; omega, by simpa only [D.py, PyData.showable] using d, by simpa only [D.py, PyData.intsShort] using e, by simpa only [D.py, PyData.weight, D.wt] using f⟩
  | n + 1, .lst ds, h => by
    obtain ⟨a, b, c, d, e, f⟩ := niceA_of n ds (by simpa only [D.nice] using h)
    exact ⟨a, by simpa only [D.py, PyData.canLay0] using b, by simp only [D.py, PyData.depth]; omega, by simpa only [D.py, PyData.showable] using d, by simpa only [D.py, PyData.intsShort] using e, by simpa only [D.py, PyData.weight, D.wt] using f⟩
  | n + 1, .rls ds, h => by
    obtain ⟨a, b, c, d, e, f⟩ := niceA_of n ds (by simpa only [D.nice] using h)
    exact ⟨a, by simpa only [D.py, PyData.canLay0] using b, by simp only [D.py, PyData.depth]; omega, by simpa only [D.py, PyData.showable] using d, by simpa only [D.py, PyData.intsShort] using e, by simpa only [D.py, PyData.weight, D.wt] using f⟩
  | 0, .tup _, h => by simp [D.nice] at h
  | 0, .lst _, h => by simp [D.nice] at h
  | 0, .rls _, h => by simp [D.nice] at h
  | 0, .jar, h => by simp [D.nice] at h
  | 0, .v _, h => by simp [D.nice] at h
  | 0, .dic _, h => by simp [D.nice] at h
  | 0, .ins _ _, h => by simp [D.nice] at h
  | n + 1, .jar, h => by simp [D.nice] at h
  | n + 1, .v _, h => by simp [D.nice] at h
  | n + 1, .dic _, h => by simp [D.nice] at h
  | n + 1, .ins _ _, h => by simp [D.nice] at h
theorem niceA_of : ∀ (n : Nat) (ds : List D), D.niceA n ds = true → D.arePy ds = true ∧ PyData.canLayAll0 (D.pys ds) = true ∧ PyData.depthAll (D.pys ds) ≤ n ∧ PyData.showableAll (D.pys ds) = true ∧ PyData.intsShortAll 64 (D.pys ds) = true ∧ PyData.weightAll (D.pys ds) ≤ D.wtA ds
  | _, [], _ => ⟨rfl, rfl, Nat.zero_le _, rfl, rfl, Nat.le_refl _⟩
  | n, d :: ds, h => by
    have h : (d.nice n && D.niceA n ds) = true := by simpa only [D.niceA] using h
    rw [Bool.and_eq_true] at h
    obtain ⟨a, b, c, e, f, g⟩ := nice_of n d h.1
    obtain ⟨a', b', c', e', f', g'⟩ := niceA_of n ds h.2
    refine ⟨by simp only [D.arePy, a, a', Bool.and_self], by simp only [D.pys, PyData.canLayAll0, b, b', Bool.and_self], ?_, by simp only [D.pys, PyData.showableAll, e, e', Bool.and_self], by simp only [D.pys, PyData.intsShortAll, f, f', Bool.and_self], ?_⟩
    · simp only [D.pys, PyData.depthAll]; omega
    · simp only [D.pys, PyData.weightAll, D.wtA]; omega
end
theorem okEq_of {n : Nat} {d : D} (h : d.nice n = true) (hn : n ≤ 60) : d.okEq = true := by
  obtain ⟨a, b, c, -⟩ := nice_of n d h
  simp only [D.okEq, a, SeqAt.shaped, b, Bool.true_and, decide_eq_true_eq]
  omega
theorem okRepr_of {n : Nat} {d : D} (h : d.nice n = true) (hn : n ≤ 60) (hw : d.wt ≤ 200000) : d.okRepr := by
  obtain ⟨a, b, c, e, f, g⟩ := nice_of n d h
  refine ⟨a, e, Nat.le_trans c hn, ?_⟩
  have := PyData.shown_le 64 (by decide) _ (PyData.leavesShort_of_canLay0 64 _ b f)
  have : sizeLine = 2 ^ 24 := rfl
  have : (2 : Nat) ^ 24 = 16777216 := by decide
  omega
theorem cmp_of {n : Nat} {d e : D} (h : d.nice n = true) (h' : e.nice n = true) (hn : n ≤ 60) : D.cmpOk d e = true := by
  simp only [D.cmpOk, okEq_of h hn, okEq_of h' hn, Bool.and_self, Bool.or_true]
mutual
theorem eqv_self : ∀ d : D, d.isPy = true → PyData.eqv d.py d.py = true
  | .non, _ => rfl
  | .bl b, _ => by simp [D.py, PyData.eqv]
  | .int _, _ => by simp [D.py, PyData.eqv]
  | .str _, _ => by simp [D.py, PyData.eqv]
  | .tup ds, h => by simpa only [D.py, PyData.eqv] using eqvA_self ds h
  | .lst ds, h => by simpa only [D.py, PyData.eqv] using eqvA_self ds h
  | .rls ds, h => by simpa only [D.py, PyData.eqv] using eqvA_self ds h
  | .jar, h => by cases h
  | .v _, h => by cases h
  | .dic _, h => by cases h
  | .ins _ _, h => by cases h
theorem eqvA_self : ∀ ds : List D, D.arePy ds = true → PyData.eqvAll (D.pys ds) (D.pys ds) = true
  | [], _ => rfl
  | d :: ds, h => by
    have h : (d.isPy && D.arePy ds) = true := h
    rw [Bool.and_eq_true] at h
    simp only [D.pys, PyData.eqvAll, eqv_self d h.1, eqvA_self ds h.2, Bool.and_self]
end
theorem eq_self {n : Nat} {d : D} {R : S → Prop} (h : d.nice n = true) (hn : n ≤ 60) (k : R (.d (.bl true))) : fEq d d R :=
  ⟨cmp_of h h hn, by rw [D.eqb, eqv_self d (nice_of n d h).1]; exact k⟩
theorem ne_self {n : Nat} {d : D} {R : S → Prop} (h : d.nice n = true) (hn : n ≤ 60) (k : R (.d (.bl false))) : fNe d d R :=
  ⟨cmp_of h h hn, by rw [D.eqb, eqv_self d (nice_of n d h).1]; exact k⟩
theorem repr_of {n : Nat} {d : D} {R : S → Prop} (h : d.nice n = true) (hn : n ≤ 60) (hw : d.wt ≤ 200000) (k : R (.d (.str d.py.shown))) : fRepr [d] R := ⟨okRepr_of h hn hw, k⟩
@[simp] theorem s_eqS {a b : Str} {R : S → Prop} : fEq (.str a) (.str b) R = R (.d (.bl (a == b))) := by
  unfold fEq; simp [D.cmpOk, D.okSc, D.scl, D.eqb, D.py, PyData.eqv]
@[simp] theorem s_neS {a b : Str} {R : S → Prop} : fNe (.str a) (.str b) R = R (.d (.bl (!(a == b)))) := by
  unfold fNe; simp [D.cmpOk, D.okSc, D.scl, D.eqb, D.py, PyData.eqv]
theorem str_self {s : Str} : (s == s) = true := by simp
/-! ### nice lists -/
theorem niceA_all {n : Nat} : ∀ {ds : List D}, (∀ d ∈ ds, d.nice n = true) → D.niceA n ds = true
  | [], _ => by simp [D.niceA]
  | d :: ds, h => by
    rw [D.niceA, h d (List.mem_cons_self ..), niceA_all fun e he => h e (List.mem_cons_of_mem _ he)]
    rfl
theorem nice_tup {n : Nat} {ds : List D} (h : ∀ d ∈ ds, d.nice n = true) : (D.tup ds).nice (n + 1) = true := by rw [D.nice]; exact niceA_all h
theorem nice_lst {n : Nat} {ds : List D} (h : ∀ d ∈ ds, d.nice n = true) : (D.lst ds).nice (n + 1) = true := by rw [D.nice]; exact niceA_all h
theorem nice_int {n : Nat} {i : Int} (h : i.natAbs < 2 ^ 200) : (D.int i).nice n = true := by
  cases n <;> simp only [D.nice, decide_eq_true_eq] <;> exact h
theorem nice_bl {n : Nat} {b : Bool} : (D.bl b).nice n = true := by cases n <;> simp only [D.nice]
theorem nice_non {n : Nat} : (D.non).nice n = true := by cases n <;> simp only [D.nice]
theorem nice_tI {n : Nat} {ns : List Int} (h : ∀ i ∈ ns, i.natAbs < 2 ^ 200) : (tI ns).nice (n + 1) = true := nice_tup fun d hd => by
  obtain ⟨i, hi, rfl⟩ := List.mem_map.mp hd
  exact nice_int (h i hi)
theorem wtA_le {w : Nat} : ∀ {ds : List D}, (∀ d ∈ ds, d.wt ≤ w) → D.wtA ds ≤ (w + 1) * ds.length
  | [], _ => Nat.zero_le _
  | d :: ds, h => by
    have h1 := h d (List.mem_cons_self ..)
    have h2 := wtA_le fun e he => h e (List.mem_cons_of_mem _ he)
    rw [D.wtA, List.length_cons, Nat.mul_add]
    omega
theorem wt_tI {ns : List Int} : (tI ns).wt ≤ 201 * ns.length := by
  rw [D.wt]
  have := wtA_le (w := 200) (ds := ns.map D.int) fun d hd => by
    obtain ⟨i, _, rfl⟩ := List.mem_map.mp hd
    simp [D.wt]
  simpa using this
/-! ### equality of data of one kind -/
theorem eqbA_map {α : Type} [DecidableEq α] {f : α → D} (hf : ∀ a b, D.eqb (f a) (f b) = decide (a = b)) : ∀ xs ys : List α, PyData.eqvAll (D.pys (xs.map f)) (D.pys (ys.map f)) = decide (xs = ys)
  | [], [] => by simp [D.pys, PyData.eqvAll]
  | [], _ :: _ => by simp [D.pys, PyData.eqvAll]
  | _ :: _, [] => by simp [D.pys, PyData.eqvAll]
  | x :: xs, y :: ys => by
    have e := hf x y
    rw [D.eqb] at e
    rw [List.map_cons, List.map_cons, D.pys, D.pys, PyData.eqvAll, e, eqbA_map hf xs ys, ← Bool.decide_and]
    exact decide_eq_decide.mpr (by rw [List.cons.injEq])
theorem eqb_tupM {α : Type} [DecidableEq α] {f : α → D} (hf : ∀ a b, D.eqb (f a) (f b) = decide (a = b)) (xs ys : List α) : D.eqb (.tup (xs.map f)) (.tup (ys.map f)) = decide (xs = ys) := by
  rw [D.eqb, D.py, D.py, PyData.eqv]; exact eqbA_map hf xs ys
theorem eqb_lstM {α : Type} [DecidableEq α] {f : α → D} (hf : ∀ a b, D.eqb (f a) (f b) = decide (a = b)) (xs ys : List α) : D.eqb (.lst (xs.map f)) (.lst (ys.map f)) = decide (xs = ys) := by
  rw [D.eqb, D.py, D.py, PyData.eqv]; exact eqbA_map hf xs ys
theorem eqb_int (a b : Int) : D.eqb (.int a) (.int b) = decide (a = b) := by
  simp only [D.eqb, D.py, PyData.eqv]; exact Bool.eq_iff_iff.mpr (by simp)
theorem eqb_tI (xs ys : List Int) : D.eqb (tI xs) (tI ys) = decide (xs = ys) := eqb_tupM eqb_int xs ys
theorem eqb_gI (xs ys : List Int) : D.eqb (gI xs) (gI ys) = decide (xs = ys) := eqb_lstM eqb_int xs ys
theorem okEqA_int : ∀ ns : List Int, D.arePy (ns.map D.int) = true ∧ PyData.canLayAll0 (D.pys (ns.map D.int)) = true ∧ PyData.depthAll (D.pys (ns.map D.int)) = 0
  | [] => ⟨rfl, rfl, rfl⟩
  | n :: ns => by
    obtain ⟨a, b, c⟩ := okEqA_int ns
    exact ⟨by simp only [List.map_cons, D.arePy, D.isPy, a, Bool.and_self], by simp only [List.map_cons, D.pys, D.py, PyData.canLayAll0, PyData.canLay0, b, Bool.and_self], by simp only [List.map_cons, D.pys, D.py, PyData.depthAll, PyData.depth, c, Nat.max_self]⟩
theorem okEq_tI (ns : List Int) : (tI ns).okEq = true := by
  obtain ⟨a, b, c⟩ := okEqA_int ns
  simp only [D.okEq, D.isPy, D.py, SeqAt.shaped, PyData.canLay0, PyData.depth, a, b, c]
  decide
theorem okEq_gI (ns : List Int) : (gI ns).okEq = true := by
  obtain ⟨a, b, c⟩ := okEqA_int ns
  simp only [D.okEq, D.isPy, D.py, SeqAt.shaped, PyData.canLay0, PyData.depth, a, b, c]
  decide
theorem s_eqTI {a b : List Int} {R : S → Prop} : fEq (tI a) (tI b) R = R (.d (.bl (decide (a = b)))) := by
  unfold fEq; rw [eqb_tI, D.cmpOk, okEq_tI, okEq_tI]; simp
theorem s_neTI {a b : List Int} {R : S → Prop} : fNe (tI a) (tI b) R = R (.d (.bl (!decide (a = b)))) := by
  unfold fNe; rw [eqb_tI, D.cmpOk, okEq_tI, okEq_tI]; simp
theorem s_eqGI {a b : List Int} {R : S → Prop} : fEq (gI a) (gI b) R = R (.d (.bl (decide (a = b)))) := by
  unfold fEq; rw [eqb_gI, D.cmpOk, okEq_gI, okEq_gI]; simp
theorem s_neGI {a b : List Int} {R : S → Prop} : fNe (gI a) (gI b) R = R (.d (.bl (!decide (a = b)))) := by
  unfold fNe; rw [eqb_gI, D.cmpOk, okEq_gI, okEq_gI]; simp
theorem s_neT1 {a : List Int} {i : Int} {R : S → Prop} : fNe (tI a) (.tup [.int i]) R = R (.d (.bl (!decide (a = [i])))) := s_neTI (b := [i])
theorem s_eqT1 {a : List Int} {i : Int} {R : S → Prop} : fEq (tI a) (.tup [.int i]) R = R (.d (.bl (decide (a = [i])))) := s_eqTI (b := [i])
/-! ### the jar -/
theorem j_ix0 {R : S → Prop} : fIx .jar (.int 0) R = ∀ n : Int, R (.d (.int n)) := propext ⟨fun h n => h.2 n fun q => absurd q (by decide), fun h => ⟨.inl rfl, fun n _ => h n⟩⟩
theorem j_ix2 {R : S → Prop} : fIx .jar (.int 2) R = ∀ n : Int, R (.d (.int n)) := propext ⟨fun h n => h.2 n fun q => absurd q (by decide), fun h => ⟨.inr (.inr rfl), fun n _ => h n⟩⟩
theorem j_ix1 {R : S → Prop} : fIx .jar (.int 1) R = ∀ n : Int, (-(2 ^ 40) < n ∧ n < 2 ^ 40) → R (.d (.int n)) := propext ⟨fun h n b => h.2 n fun _ => b, fun h => ⟨.inr (.inl rfl), fun n b => h n (b rfl)⟩⟩
theorem j_s0 {n : Int} {N : S → Prop} : sIx (.d .jar) (.int 0) (.int n) N = N (.d .jar) := propext ⟨fun h => h.2.2, fun h => ⟨.inl rfl, ⟨n, rfl, fun q => absurd q (by decide)⟩, h⟩⟩
theorem j_s2 {n : Int} {N : S → Prop} : sIx (.d .jar) (.int 2) (.int n) N = N (.d .jar) := propext ⟨fun h => h.2.2, fun h => ⟨.inr (.inr rfl), ⟨n, rfl, fun q => absurd q (by decide)⟩, h⟩⟩
theorem j_s1 {n : Int} {N : S → Prop} : sIx (.d .jar) (.int 1) (.int n) N = ((-(2 ^ 40) < n ∧ n < 2 ^ 40) ∧ N (.d .jar)) := propext ⟨fun ⟨_, ⟨m, e, b⟩, h⟩ => by
  injection e with e
  subst e
  exact ⟨b rfl, h⟩, fun h => ⟨.inr (.inl rfl), ⟨n, rfl, fun _ => h.1⟩, h.2⟩⟩
theorem fmod_pos {a b : Int} (h : 0 < b) : 0 ≤ a.fmod b ∧ a.fmod b < b := ⟨Int.fmod_nonneg_of_pos a h, Int.fmod_lt_of_pos a h⟩
theorem s_slT {ds : List D} {lo hi : Option Int} {R : S → Prop} : fSl (.tup ds) lo hi R = R (.d (.tup (cutD ds lo hi))) := rfl
theorem s_slL {ds : List D} {lo hi : Option Int} {R : S → Prop} : fSl (.lst ds) lo hi R = R (.own (cutD ds lo hi)) := rfl
theorem s_slR {ds : List D} {lo hi : Option Int} {R : S → Prop} : fSl (.rls ds) lo hi R = R (.own (cutD ds lo hi)) := rfl
theorem cut_map {α β : Type} {f : α → β} {xs : List α} {lo hi : Option Int} : cutD (xs.map f) lo hi = (cutD xs lo hi).map f := by
  unfold cutD
  rw [List.length_map, List.map_take, List.map_drop]
theorem ix_rls {ds : List D} {i : Int} {x : D} {R : S → Prop} (h0 : 0 ≤ i) (h : ds[i.toNat]? = some x) (hR : R (.d x)) : fIx (.rls ds) (.int i) R := ⟨_, x, rfl, atI_pos h0 h, hR⟩
theorem pow_18 : CPow 10 18 := ⟨by decide, by decide, by decide +kernel⟩
/-! ### loops over ranges and maps -/
theorem rangeD_succ (lo : Int) (n : Nat) : rangeD lo (n + 1) = .int lo :: rangeD (lo + 1) n := by
  unfold rangeD
  rw [List.range_succ_eq_map, List.map_cons, List.map_map]
  congr 1
  · simp
  · apply List.map_congr_left
    intro i _
    simp only [Function.comp_def, D.int.injEq]
    push_cast
    omega
theorem for_rng {E : DEnds} {f : TgF} {b : WS} : ∀ {n : Nat} {lo : Int} {ρ : Rho} (I : Nat → Rho → Prop), I 0 ρ → (∀ i ρ (N : Rho → Prop), i < n → I i ρ → (∀ ρ', I (i + 1) ρ' → N ρ') → f (.int (lo + (i : Nat))) fun l => b { E with nx := N, ct := N, bk := E.nx } (storesR ρ l)) →
    (∀ ρ, I n ρ → E.nx ρ) → wForL f b E (rangeD lo n) ρ
  | 0, lo, ρ, I, h, _, hd => hd ρ h
  | n + 1, lo, ρ, I, h, hs, hd => by
    rw [rangeD_succ]
    have := hs 0 ρ (fun ρ' => wForL f b E (rangeD (lo + 1) n) ρ') (Nat.succ_pos _) h fun ρ' h' => for_rng (fun i => I (i + 1)) h' (fun i ρ N hi hI k => by
      have := hs (i + 1) ρ N (by omega) hI k
      have e : lo + ((i + 1 : Nat) : Int) = lo + 1 + (i : Nat) := by push_cast; omega
      rwa [e] at this) hd
    have e : lo + ((0 : Nat) : Int) = lo := by simp
    rw [e] at this
    exact this
theorem for_map {α : Type} {g : α → D} {E : DEnds} {f : TgF} {b : WS} : ∀ {xs : List α} {ρ : Rho} (I : List α → Rho → Prop), I xs ρ → (∀ x xs ρ (N : Rho → Prop), I (x :: xs) ρ → (∀ ρ', I xs ρ' → N ρ') → f (g x) fun l => b { E with nx := N, ct := N, bk := E.nx } (storesR ρ l)) →
    (∀ ρ, I [] ρ → E.nx ρ) → wForL f b E (xs.map g) ρ
  | [], ρ, I, h, _, hd => hd ρ h
  | x :: xs, ρ, I, h, hs, hd => hs x xs ρ _ h fun ρ' h' => for_map I h' hs hd
theorem lc_ints {f : TgF} {t : WT} {e : WE} {ρ : Rho} {R : List D → Prop} (g : Int → Int) {ns : List Int} (hs : ∀ n ∈ ns, ∀ (acc : List D) (K : List D → Prop), acc.length < sizeLine → K (acc ++ [.int (g n)]) → lcStep f t e ρ (.int n) acc K) (hl : ns.length ≤ sizeLine) (hR : R ((ns.map g).map .int)) : wLcL f t e ρ R (ns.map .int) [] := by
  refine lc_map (fun d => match d with | .int n => D.int (g n) | d => d) (fun d hd acc K ha k => ?_) (by simpa using hl) ?_
  · obtain ⟨n, hn, rfl⟩ := List.mem_map.mp hd
    exact hs n hn acc K ha k
  · have : (ns.map D.int).map (fun d => match d with | .int n => D.int (g n) | d => d) = (ns.map g).map .int := by simp [List.map_map, Function.comp_def]
    rwa [this]
theorem s_sortedA {ns : List Int} {R : S → Prop} (h : ns.Pairwise (· ≤ ·)) (hR : R (.own (ns.map .int))) : fSorted [.lst (ns.map .int)] R := by
  refine ⟨ns, .inl rfl, fun ns' p s => ?_⟩
  have : ns' = ns := p.eq_of_pairwise (fun a b _ _ h1 h2 => Int.le_antisymm h1 h2) s h
  rw [this]
  exact hR
theorem pow_30 : CPow 10 30 := ⟨by decide, by decide, by decide +kernel⟩
theorem pow_6 : CPow 10 6 := ⟨by decide, by decide, by decide +kernel⟩
end DL

/-! DL10: comprehensions of two fors; frozen slots; divmod into a jar. -/
namespace DL
open PySem PySem.Spec L2
section
variable {X : Cx} {G : Gx} {T : WX} {pos p : Pos}
/-! ### an own slot is frozen at once -/
def frzR (ρ : Rho) (i : Nat) : Rho := match ρ[i]? with
  | some (some d) => if d.isOwn = true then ρ.set i (some (.d d.frz)) else ρ
  | _ => ρ
def wFrz (i : Nat) (u : WS) : WS := fun E ρ => u E (frzR ρ i)
theorem Ok.frz1 {K : PySem.W.Frag} {σ : L2.St} {ρ : Rho} {W : Wd} {H : Hp} (ok : Ok K G W ρ σ H) (i : Nat) : ∃ W2, Ok K G W2 (frzR ρ i) σ H ∧ Le W H W2 H := by
  unfold frzR
  split
  · rename_i d e
    obtain ⟨x, W2, _, g, _⟩ := ok.freezeSlot e
    exact ⟨W2, g.ok, g.stp.le⟩
  · exact ⟨W, ok, .refl _ _⟩
theorem ds_frz {st : Stmt} {u : WS} (i : Nat) (h : DS X G T st u) : DS X G T st (wFrz i u) := ps_weak h fun D σ H ⟨W, ρ, E, ok, h, hn, hr, hb, hc, hx⟩ => by
  obtain ⟨W2, ok2, l⟩ := ok.frz1 i
  exact ⟨W2, frzR ρ i, E, ok2, h, hn.le l, hr.le l, hb.le l, hc.le l, hx.le l⟩
end
section
variable {X : Cx} {G : Gx} {T : WX} {pos : Pos} {t t1 : WT}
/-! ### comprehensions of two fors -/
def wLcL2 (f : TgF) (t : WT) (wi1 : WI) (f1 : TgF) (t1 : WT) (e : WE) (vs1 : List Nat) (ρ : Rho) (R : List D → Prop) : List D → List D → Prop
  | [], acc => R acc
  | d :: ds, acc => f d fun l => t noZ (storesR ρ l) fun b ρ3 => ρ3 = storesR ρ l ∧ if b = true then
      wi1 noZ (storesR ρ l) fun ds1 ρ4 => ρ4 = storesR ρ l ∧ wLcL f1 t1 e (wipeR (storesR ρ l) vs1) (fun acc => wLcL2 f t wi1 f1 t1 e vs1 ρ R ds acc) ds1 acc
    else wLcL2 f t wi1 f1 t1 e vs1 ρ R ds acc
def wLc2 (wi : WI) (f : TgF) (t : WT) (wi1 : WI) (f1 : TgF) (t1 : WT) (e : WE) (vs vs1 : List Nat) : WE := fun Z ρ R => wi Z ρ fun ds ρ1 => NoOwn ρ1 vs ∧ wLcL2 f t wi1 f1 t1 e vs1 (wipeR ρ1 vs) (fun acc => R (.own acc) ρ1) ds []
theorem noOwn_stores {ρ : Rho} {vs : List Nat} : ∀ {l : List (Nat × D)} {ρ : Rho}, (∀ i d, ρ[i]? = some (some d) → i ∈ vs → d.isOwn = false) → ∀ (i : Nat) (d : S), (storesR ρ l)[i]? = some (some d) → i ∈ vs → d.isOwn = false
  | [], ρ, h, i, d, e, m => h i d e m
  | (j, x) :: l, ρ, h, i, d, e, m => by
    refine noOwn_stores (l := l) (ρ := ρ.set j (some (.d x))) (fun i d e m => ?_) i d e m
    rcases set_get e with ⟨_, z⟩ | ⟨_, z⟩
    · cases z; rfl
    · exact h i d z m
theorem noOwn_blk {ρ : Rho} {vs vs1 : List Nat} {l : List (Nat × D)} (hv : ∀ i ∈ vs1, i ∈ vs) : NoOwn (storesR (wipeR ρ vs) l) vs1 := fun i hi d e =>
  noOwn_stores (ρ := ρ) (vs := vs) (fun i d e m => absurd m (wipeR_some e).2) i d e (hv i hi)
theorem lE_lc2 {K : PySem.W.Frag} {X' : Cx} (hK : X'.K = K) {wi wi1 : WI} {f f1 : TgF} {g g1 : TG} {tg tg1 : Expr} {te : WE} {vs vs1 : List Nat} (hg : TgtL X' tg f g) (hin : TgIn f vs) (hg1 : TgtL X' tg1 f1 g1) (hin1 : TgIn f1 vs1) (hv : ∀ i ∈ vs1, i ∈ vs) {σ : L2.St} {H : Hp} {Q : VK} (h : lE K G T (wLc2 wi f t wi1 f1 t1 te vs vs1) σ H Q) :
    tLc2 (lI K G T wi) g (lT K G noT t) (lI K G noT wi1) g1 (lT K G noT t1) (lE K G noT te) vs vs1 σ H Q := by
  subst hK
  obtain ⟨W, ρ, R, Z, ok, h, hR, hZ⟩ := h
  refine ⟨W, ρ, _, Z, ok, h, fun ds ρ1 W1 H1 J ⟨hno, h1⟩ gg1 it D hD => ?_, hZ⟩
  have al1 := gg1.ok.al
  have hD0 : G.H D = none := gg1.ok.upG hD
  have nOD : ¬ Ow ρ1 σ D := fun q => by
    obtain ⟨o, e⟩ := gg1.ok.here q
    rw [hD] at e; cases e
  have start := Go.new (o := .lst []) gg1.ok hD
  -- the state between two items, the goal N of what is left
  let Mid : Wd → List DL.D → Hp → Prop := fun W' acc H' => ∃ xs, Ok X'.K G W' ρ1 σ H' ∧ H' D = some (.lst xs) ∧ DnA X'.K W' H' acc xs ∧ ¬ W'.F D ∧ ¬ W'.J D ∧ Step (Ow ρ1 σ) W1 H1 W' H'
  refine ⟨fun i m H' => ∃ W' acc, Mid W' acc H' ∧ wLcL2 f t wi1 f1 t1 te vs1 (wipeR ρ1 vs) (fun acc => R (.own acc) ρ1) (ds.drop i) acc ∧ m = ds.length - i ∧ i ≤ ds.length, ?_, ?_⟩
  · refine ⟨ds.length, W1, [], ⟨[], start.ok, upd_same, .nil, fun q => ?_, fun q => ?_, start.stp⟩, h1, rfl, Nat.zero_le _⟩
    · obtain ⟨o, e⟩ := al1.f D q; rw [hD] at e; cases e
    · obtain ⟨x, y, z, e, _⟩ := al1.j D q; rw [hD] at e; cases e
  rintro i m H' ⟨W', acc, ⟨xs, ok', eD, da, nF, nJ, st⟩, h', rfl, hle⟩
  obtain ⟨q1, q2⟩ := it i W' H' st.le ok'.al
  by_cases hi : i < ds.length
  · obtain ⟨d, hd⟩ : ∃ d, ds[i]? = some d := ⟨ds[i], List.getElem?_eq_getElem hi⟩
    obtain ⟨go, yl⟩ := q2 d hd
    have ed : ds[i] = d := by rw [List.getElem?_eq_getElem hi] at hd; exact Option.some.inj hd
    rw [List.drop_eq_getElem_cons hi, ed] at h'
    refine .inr ⟨go, fun H2 => ∃ W' acc, Mid W' acc H2 ∧ wLcL2 f t wi1 f1 t1 te vs1 (wipeR ρ1 vs) (fun acc => R (.own acc) ρ1) (ds.drop (i + 1)) acc, ?_, fun x H2 hy => ?_⟩
    · rintro H2 ⟨W2, acc2, o, q⟩
      exact ⟨ds.length - (i + 1), by omega, W2, acc2, o, q, rfl, by omega⟩
    · obtain ⟨W2, st2, al2, hd2⟩ := yl x H2 hy
      have g2 := ok'.grow st2 al2
      have okb := g2.ok.wipe vs
      refine hg.2 W2 H2 x d (wipe σ vs) _ _ hd2 (hin d _ _ h' fun l hl hv => (⟨hl, hv⟩ : _ ∧ ∀ p ∈ l, p.1 ∈ vs)) fun l xs' ⟨hl, hv'⟩ dl => ?_
      have ok3 := okb.stores dl
      have owS : ∀ a, Ow (storesR (wipeR ρ1 vs) l) (stores (wipe σ vs) (l.map (·.1)) xs') a → Ow ρ1 σ a := fun a q => ow_wipe (ow_stores dl q)
      have nD2 : W2.F D → False := fun q => (st2.nF D q).elim nF fun z => z.elim (fun e => by rw [eD] at e; cases e) id
      have nJ2 : W2.J D → False := fun q => (st2.nJ D q).elim nJ fun e => by rw [eD] at e; cases e
      have eD2 : H2 D = some (.lst xs) := st2.st D _ eD nJ fun q => q
      have sA : Step (Ow ρ1 σ) W1 H1 W2 H2 := st.trans st2 fun _ q => q.elim
      refine ⟨by rw [wipe_stores hv', wipe_wipe fun _ h => h], ?_⟩
      refine ⟨W2, _, _, noZ, ok3, hl, fun b ρ3 W3 H3 ⟨e3, hb⟩ g3 => ?_, fun _ _ _ _ _ _ q => q.elim⟩
      subst e3
      have nD3 : W3.F D → False := fun q => (g3.stp.nF D q).elim nD2 fun z => z.elim (fun e => by rw [eD2] at e; cases e) fun q => nOD (owS D q)
      have nJ3 : W3.J D → False := fun q => (g3.stp.nJ D q).elim nJ2 fun e => by rw [eD2] at e; cases e
      have eD3 : H3 D = some (.lst xs) := g3.stp.st D _ eD2 nJ2 fun q => nOD (owS D q)
      have sB : Step (Ow ρ1 σ) W1 H1 W3 H3 := sA.trans g3.stp fun a q => .inl (owS a q)
      have ok31 : Ok X'.K G W3 ρ1 σ H3 := ok'.unblk hno hv' g3.ok (st2.le.trans g3.stp.le)
      have l3 : Le W' H' W3 H3 := st2.le.trans g3.stp.le
      cases b with
      | false =>
        simp only [Bool.false_eq_true, if_false] at hb ⊢
        exact ⟨W3, acc, ⟨xs, ok31, eD3, da.le l3, nD3, nJ3, sB⟩, hb⟩
      | true =>
        simp only [if_true] at hb ⊢
        refine ⟨W3, _, _, noZ, g3.ok, hb, fun ds1 ρ4 W4 H4 J1 ⟨e4, h4⟩ g4 it1 => ?_, fun _ _ _ _ _ _ q => q.elim⟩
        subst e4
        have nD4 : W4.F D → False := fun q => (g4.stp.nF D q).elim nD3 fun z => z.elim (fun e => by rw [eD3] at e; cases e) fun q => nOD (owS D q)
        have nJ4 : W4.J D → False := fun q => (g4.stp.nJ D q).elim nJ3 fun e => by rw [eD3] at e; cases e
        have eD4 : H4 D = some (.lst xs) := g4.stp.st D _ eD3 nJ3 fun q => nOD (owS D q)
        have sC : Step (Ow ρ1 σ) W1 H1 W4 H4 := sB.trans g4.stp fun a q => .inl (owS a q)
        have l4 : Le W' H' W4 H4 := l3.trans g4.stp.le
        have ok41 : Ok X'.K G W4 ρ1 σ H4 := ok'.unblk hno hv' g4.ok l4
        have l24 : Le W2 H2 W4 H4 := g3.stp.le.trans g4.stp.le
        refine ⟨fun j k H => ∃ W' acc, Mid W' acc H ∧ Le W4 H4 W' H ∧ wLcL f1 t1 te (wipeR (storesR (wipeR ρ1 vs) l) vs1) (fun acc => wLcL2 f t wi1 f1 t1 te vs1 (wipeR ρ1 vs) (fun acc => R (.own acc) ρ1) (ds.drop (i + 1)) acc) (ds1.drop j) acc ∧ k = ds1.length - j ∧ j ≤ ds1.length, ?_, ?_⟩
        · exact ⟨ds1.length, W4, acc, ⟨xs, ok41, eD4, da.le l4, nD4, nJ4, sC⟩, .refl _ _, h4, rfl, Nat.zero_le _⟩
        rintro j k H5 ⟨W5, acc, ⟨xs, ok5, eD5, da5, nF5, nJ5, st5⟩, l5, h5, rfl, hle1⟩
        obtain ⟨q11, q12⟩ := it1 j W5 H5 l5 ok5.al
        by_cases hj : j < ds1.length
        · obtain ⟨d1, hd1⟩ : ∃ d, ds1[j]? = some d := ⟨ds1[j], List.getElem?_eq_getElem hj⟩
          obtain ⟨go1, yl1⟩ := q12 d1 hd1
          have ed1 : ds1[j] = d1 := by rw [List.getElem?_eq_getElem hj] at hd1; exact Option.some.inj hd1
          rw [List.drop_eq_getElem_cons hj, ed1] at h5
          refine .inr ⟨go1, fun H2 => ∃ W' acc, Mid W' acc H2 ∧ Le W4 H4 W' H2 ∧ wLcL f1 t1 te (wipeR (storesR (wipeR ρ1 vs) l) vs1) (fun acc => wLcL2 f t wi1 f1 t1 te vs1 (wipeR ρ1 vs) (fun acc => R (.own acc) ρ1) (ds.drop (i + 1)) acc) (ds1.drop (j + 1)) acc, ?_, fun x1 H6 hy1 => ?_⟩
          · rintro H2 ⟨W2, acc2, o, lq, q⟩
            exact ⟨ds1.length - (j + 1), by omega, W2, acc2, o, lq, q, rfl, by omega⟩
          · obtain ⟨W6, st6, al6, hd6⟩ := yl1 x1 H6 hy1
            have g6 := ok5.grow st6 al6
            have l26 : Le W2 H2 W6 H6 := (l24.trans l5).trans st6.le
            have dl6 := DnA.le l26 dl
            have ok62 : Ok X'.K G W6 (storesR (wipeR ρ1 vs) l) (stores (wipe σ vs) (l.map (·.1)) xs') H6 := (g6.ok.wipe vs).stores dl6
            have okb6 := ok62.wipe vs1
            refine hg1.2 W6 H6 x1 d1 _ _ _ hd6 (hin1 d1 _ _ h5 fun l hl hv => (⟨hl, hv⟩ : _ ∧ ∀ p ∈ l, p.1 ∈ vs1)) fun l1 xs1 ⟨hl1, hv1⟩ dl1 => ?_
            have ok7 := okb6.stores dl1
            have owS1 : ∀ a, Ow (storesR (wipeR (storesR (wipeR ρ1 vs) l) vs1) l1) (stores (wipe (stores (wipe σ vs) (l.map (·.1)) xs') vs1) (l1.map (·.1)) xs1) a → Ow ρ1 σ a := fun a q => ow_wipe (ow_stores dl6 (ow_wipe (ow_stores dl1 q)))
            have nD6 : W6.F D → False := fun q => (st6.nF D q).elim nF5 fun z => z.elim (fun e => by rw [eD5] at e; cases e) id
            have nJ6 : W6.J D → False := fun q => (st6.nJ D q).elim nJ5 fun e => by rw [eD5] at e; cases e
            have eD6 : H6 D = some (.lst xs) := st6.st D _ eD5 nJ5 fun q => q
            have sD : Step (Ow ρ1 σ) W1 H1 W6 H6 := st5.trans st6 fun _ q => q.elim
            refine ⟨by rw [wipe_stores hv1, wipe_wipe fun _ h => h], ?_⟩
            refine ⟨W6, _, _, noZ, ok7, hl1, fun b ρ8 W8 H8 ⟨e8, hb8⟩ g8 => ?_, fun _ _ _ _ _ _ q => q.elim⟩
            subst e8
            have nD8 : W8.F D → False := fun q => (g8.stp.nF D q).elim nD6 fun z => z.elim (fun e => by rw [eD6] at e; cases e) fun q => nOD (owS1 D q)
            have nJ8 : W8.J D → False := fun q => (g8.stp.nJ D q).elim nJ6 fun e => by rw [eD6] at e; cases e
            have eD8 : H8 D = some (.lst xs) := g8.stp.st D _ eD6 nJ6 fun q => nOD (owS1 D q)
            have sE : Step (Ow ρ1 σ) W1 H1 W8 H8 := sD.trans g8.stp fun a q => .inl (owS1 a q)
            have back : ∀ {W9 H9}, Ok X'.K G W9 (storesR (wipeR (storesR (wipeR ρ1 vs) l) vs1) l1) (stores (wipe (stores (wipe σ vs) (l.map (·.1)) xs') vs1) (l1.map (·.1)) xs1) H9 → Le W6 H6 W9 H9 → Ok X'.K G W9 ρ1 σ H9 := fun o le =>
              g6.ok.unblk hno hv' (ok62.unblk (noOwn_blk hv) hv1 o le) le
            cases b with
            | false =>
              simp only [Bool.false_eq_true, if_false] at hb8 ⊢
              exact ⟨W8, acc, ⟨xs, back g8.ok g8.stp.le, eD8, da5.le (st6.le.trans g8.stp.le), nD8, nJ8, sE⟩, (l5.trans st6.le).trans g8.stp.le, hb8⟩
            | true =>
              simp only [if_true] at hb8 ⊢
              refine lE_then (T := noT) (R := fun y ρ9 => ρ9 = storesR (wipeR (storesR (wipeR ρ1 vs) l) vs1) l1 ∧ acc.length < sizeLine ∧ wLcL f1 t1 te (wipeR (storesR (wipeR ρ1 vs) l) vs1) (fun acc => wLcL2 f t wi1 f1 t1 te vs1 (wipeR ρ1 vs) (fun acc => R (.own acc) ρ1) (ds.drop (i + 1)) acc) (ds1.drop (j + 1)) (acc ++ [y])) g8.ok hb8 (fun _ _ _ _ _ _ q => q.elim) fun y ρ9 W9 z H9 ⟨e9, hlen, h9⟩ g9 d9 => ?_
              subst e9
              have nD9 : W9.F D → False := fun q => (g9.stp.nF D q).elim nD8 fun z => z.elim (fun e => by rw [eD8] at e; cases e) fun q => nOD (owS1 D q)
              have nJ9 : W9.J D → False := fun q => (g9.stp.nJ D q).elim nJ8 fun e => by rw [eD8] at e; cases e
              have eD9 : H9 D = some (.lst xs) := g9.stp.st D _ eD8 nJ8 fun q => nOD (owS1 D q)
              have l69 : Le W6 H6 W9 H9 := g8.stp.le.trans g9.stp.le
              have l59 : Le W5 H5 W9 H9 := st6.le.trans l69
              have lw : Le W9 H9 W9 (upd H9 D (.lst (xs ++ [z]))) := ⟨fun _ h => h, fun _ h => h, fun a h => upd_ne fun e => nD9 (by rw [← e]; exact h)⟩
              refine ⟨xs, eD9, by rw [← da5.length]; exact hlen, W9, acc ++ [y], ⟨xs ++ [z], (back g9.ok l69).write nD9 nJ9 hD0 nOD, upd_same, ((da5.le l59).append (.cons d9 .nil)).le lw, nD9, nJ9, ?_⟩, (l5.trans l59).trans lw, h9⟩
              exact (sE.trans g9.stp fun a q => .inl (owS1 a q)).write al1 hD
        · have e : j = ds1.length := by omega
          subst e
          rw [List.drop_length] at h5
          exact .inl ⟨q11 (Nat.le_refl _), W5, acc, ⟨xs, ok5, eD5, da5, nF5, nJ5, st5⟩, h5⟩
  · have e : i = ds.length := by omega
    subst e
    rw [List.drop_length] at h'
    refine .inl ⟨q1 (Nat.le_refl _), hR (.own acc) ρ1 W' (.ref D) H' h' (gg1.trans ⟨ok', st, fun _ q => q⟩) ⟨⟨D, xs, rfl, eD, da⟩, fun _ p e => ?_⟩⟩
    cases e
    exact ⟨nF, nJ, gg1.stp.up D hD⟩
theorem de_lc2 {elt tg iter tg1 iter1 : Expr} {ifs ifs1 : List Expr} {scope : Scope} {own : List (Str × Nat)} {vs1 : List Nat} {wi wi1 : WI} {f f1 : TgF} {g g1 : TG} {te : WE} (hN : X.N.Nodup) (hi : DI X G T tg iter wi) (ok : BlkOk X.N X.env.scope scope own)
    (hg : ∀ (s : Shared) (H : Hp) (C : Addr) (cl : List (Str × Addr)) (fp : List Addr), TgtL (X.blk s H scope (compEnvC scope cl C X.env) fp) tg f g) (hin : TgIn f (own.map (·.2)))
    (ht : ∀ (s : Shared) (H : Hp) (C : Addr) (cl : List (Str × Addr)) (fp : List Addr), DTs (X.blk s H scope (compEnvC scope cl C X.env) fp) G noT ifs t)
    (hi1 : ∀ (s : Shared) (H : Hp) (C : Addr) (cl : List (Str × Addr)) (fp : List Addr), DI (X.blk s H scope (compEnvC scope cl C X.env) fp) G noT tg1 iter1 wi1)
    (hg1 : ∀ (s : Shared) (H : Hp) (C : Addr) (cl : List (Str × Addr)) (fp : List Addr), TgtL (X.blk s H scope (compEnvC scope cl C X.env) fp) tg1 f1 g1) (hin1 : TgIn f1 vs1) (hv : ∀ i ∈ vs1, i ∈ own.map (·.2))
    (ht1 : ∀ (s : Shared) (H : Hp) (C : Addr) (cl : List (Str × Addr)) (fp : List Addr), DTs (X.blk s H scope (compEnvC scope cl C X.env) fp) G noT ifs1 t1)
    (he : ∀ (s : Shared) (H : Hp) (C : Addr) (cl : List (Str × Addr)) (fp : List Addr), DE (X.blk s H scope (compEnvC scope cl C X.env) fp) G noT elt te) (hc : X.calm = true := by rfl) (hs : ∀ x, foldedSetIterable iter X.env x = pure x := by intro _; rfl) (hs1 : ∀ env x, foldedSetIterable iter1 env x = pure x := by intro _ _; rfl) :
    DE X G T (.ListComp elt [⟨tg, iter, ifs, 0⟩, ⟨tg1, iter1, ifs1, 0⟩] scope pos) (wLc2 wi f t wi1 f1 t1 te (own.map (·.2)) vs1) :=
  ⟨fun pins s σ H Q I h => (pe_lc2 (wi1 := lI X.K G noT wi1) (tt := lT X.K G noT t) (tt1 := lT X.K G noT t1) (te := lE X.K G noT te) hc hN hi ok hv (fun s H C cl fp => (hg s H C cl fp).1) ht hi1 (fun s H C cl fp => (hg1 s H C cl fp).1) ht1 he hs hs1).run pins s σ H Q I (lE_lc2 (X' := X.blk s H scope (compEnvC scope [] 0 X.env) []) rfl (hg s H 0 [] []) hin (hg1 s H 0 [] []) hin1 hv h)⟩
theorem ds_setLc2 {i : Nat} {y : Str} {py : Pos} {elt tg iter tg1 iter1 : Expr} {ifs ifs1 : List Expr} {scope : Scope} {own : List (Str × Nat)} {vs1 : List Nat} {spos : Pos} {wi wi1 : WI} {f f1 : TgF} {g g1 : TG} {te : WE} (hN : X.N.Nodup) (hi : DI X G T tg iter wi) (ok : BlkOk X.N X.env.scope scope own)
    (hg : ∀ (s : Shared) (H : Hp) (C : Addr) (cl : List (Str × Addr)) (fp : List Addr), TgtL (X.blk s H scope (compEnvC scope cl C X.env) fp) tg f g) (hin : TgIn f (own.map (·.2)))
    (ht : ∀ (s : Shared) (H : Hp) (C : Addr) (cl : List (Str × Addr)) (fp : List Addr), DTs (X.blk s H scope (compEnvC scope cl C X.env) fp) G noT ifs t)
    (hi1 : ∀ (s : Shared) (H : Hp) (C : Addr) (cl : List (Str × Addr)) (fp : List Addr), DI (X.blk s H scope (compEnvC scope cl C X.env) fp) G noT tg1 iter1 wi1)
    (hg1 : ∀ (s : Shared) (H : Hp) (C : Addr) (cl : List (Str × Addr)) (fp : List Addr), TgtL (X.blk s H scope (compEnvC scope cl C X.env) fp) tg1 f1 g1) (hin1 : TgIn f1 vs1) (hv : ∀ i ∈ vs1, i ∈ own.map (·.2))
    (ht1 : ∀ (s : Shared) (H : Hp) (C : Addr) (cl : List (Str × Addr)) (fp : List Addr), DTs (X.blk s H scope (compEnvC scope cl C X.env) fp) G noT ifs1 t1)
    (he : ∀ (s : Shared) (H : Hp) (C : Addr) (cl : List (Str × Addr)) (fp : List Addr), DE (X.blk s H scope (compEnvC scope cl C X.env) fp) G noT elt te)
    (hsw : swapsWith (.ListComp elt [⟨tg, iter, ifs, 0⟩, ⟨tg1, iter1, ifs1, 0⟩] scope pos) (some (.Name y py)) spos.line X.env = pure true) (hy : X.N[i]? = some y := by rfl) (hyl : X.env.scope.names.lookup y = some .local := by rfl) (hc : X.calm = true := by rfl)
    (hs : ∀ x, foldedSetIterable iter X.env x = pure x := by intro _; rfl) (hs1 : ∀ env x, foldedSetIterable iter1 env x = pure x := by intro _ _; rfl) :
    DS X G T (.Assign [.Name y py] (.ListComp elt [⟨tg, iter, ifs, 0⟩, ⟨tg1, iter1, ifs1, 0⟩] scope pos) spos) (wSet i (wLc2 wi f t wi1 f1 t1 te (own.map (·.2)) vs1)) :=
  ⟨fun pins s σ H D I h => (ps_setLc2 (wi1 := lI X.K G noT wi1) (tt := lT X.K G noT t) (tt1 := lT X.K G noT t1) (te := lE X.K G noT te) hc hN hy hyl hsw hi ok hv (fun s H C cl fp => (hg s H C cl fp).1) ht hi1 (fun s H C cl fp => (hg1 s H C cl fp).1) ht1 he hs hs1).run pins s σ H D I (lS_set (fun Q q => lE_lc2 (X' := X.blk s H scope (compEnvC scope [] 0 X.env) []) rfl (hg s H 0 [] []) hin (hg1 s H 0 [] []) hin1 hv q) h)⟩
end
end DL

/-! DL11: set of a list of ints, sorted(set(..)). -/
namespace DL
open PySem PySem.Spec L2 PyProof.Rows
section
variable {P : Program} {w : World} {A : Around} {E : Value → Shared → Prop} {s : Shared}
/-- a set's object before anything is in it -/
def newS (w : World) : Obj := { cls := .type "set", dict := none, data := .set #[] 0 (.fresh 0 0 (!w.params.followText "set-order")) }
theorem newS_set {s : Shared} : Shared.TypeIs { s with heap := s.heap.push (newS w) } (.ref s.heap.objs.size) "set" := ⟨newS w, Heap.get?_push_size _ rfl, rfl⟩
/-- what set.__init__ leaves -/
def Filled (w : World) (ns : List Int) (s s2 : Shared) : Prop := ∃ (g : Heap) (tk c : Nat), s2 = { s with heap := g, toks := tk } ∧ SetR w g s.heap.objs.size (fun j => decide (j ∈ ns)) c ∧ c ≤ ns.length ∧ ∀ b o, s.heap.get? b = some o → g.get? b = some o
theorem init_list {l : Addr} {its : Array Value} (ns : List Int) (hh : A.handled = none) (hl : s.heap.IsList l its) (hit : IntsAre its.toList ns) (hb : ns.length + 1 < scanBound) :
    codeAny (model P w) A (.call (.builtin "set.__init__") ⟨[.ref s.heap.objs.size, .ref l], []⟩) (wants (fun r s2 => r = .none ∧ Filled w ns s s2) E) { s with heap := s.heap.push (newS w) } := by
  refine codeAny_call_builtin F.called_set.init.plain F.entry_set_init (check_set_init_1 newS_set ?_)
  have len : its.size = ns.length := by have q := IntsAre.length hit; rwa [Array.length_toList] at q
  obtain ⟨⟨oc, od, odt, os⟩, hol, hcl, nl, hdl⟩ := hl
  simp only at hcl hdl
  subst hcl hdl
  have old : (s.heap.push (newS w)).get? l = some { cls := .type "list", dict := od, data := .seq its nl, slots := os } := Heap.get?_push_of_some _ hol
  have below : l < s.heap.objs.size := Heap.lt_size hol
  have isl : (s.heap.push (newS w)).IsList l its := ⟨_, old, rfl, nl, rfl⟩
  have a1 := F.sub_list_set
  have a2 := F.sub_list_frozenset
  have a3 : (Value.type "list" == Value.type "dict") = false := by decide
  unfold Builtin.«set.__init__» noKeywords Builtin.Frozenset.updateFrom
  generalize hPI : pyIter = PI
  wp_walk
  subst hPI
  refine wpAny_pyIter_list isl (wpAny_bind (wpAny_runValue ?_))
  have calm : A.in1.in1.handled = none := by simp [hh]
  have ne1 : l ≠ (s.heap.push (newS w)).objs.size := by rw [Heap.size_push]; exact Nat.ne_of_lt (Nat.lt_succ_of_lt below)
  have ne2 : s.heap.objs.size ∉ [(s.heap.push (newS w)).objs.size, l] := by
    rw [Heap.size_push]
    simp only [List.mem_cons, List.not_mem_nil, or_false, not_or]
    exact ⟨Nat.ne_of_lt (Nat.lt_succ_self _), Nat.ne_of_gt below⟩
  have vals : ∀ (i : Nat) (v : Value), its[i]? = some v → ∃ k t, ns[i]? = some k ∧ v = .int k t := fun i v hv => by
    have hi : i < ns.length := by rw [← len]; exact (Array.getElem?_eq_some_iff.mp hv).1
    obtain ⟨t, e⟩ := PyProof.Rows.IntsAre.int_at hit i v (by rw [Array.getElem?_toList]; exact hv)
    exact ⟨ns[i], t, List.getElem?_eq_getElem hi, by rw [e, List.getD_eq_getElem?_getD, List.getElem?_eq_getElem hi] <;> rfl⟩
  refine set_update_ints ((Walks.list calm _ l ne1 its).toS) s.heap.objs.size ne2 ns len hb vals (its.size - 0) 0 _ (by omega) (Nat.zero_le _) ?y ?z ?_
  case y => exact ⟨⟨_, Heap.get?_push_size _ rfl, rfl, rfl⟩, isl.push _⟩
  case z => exact ⟨0, Nat.le_refl 0, setR_new_at (Heap.get?_push_of_some _ (Heap.get?_push_size s.heap (o := newS w) rfl))⟩
  intro s2 c mv hc full
  obtain ⟨g, gs, dr, tk, o2⟩ := s2
  obtain rfl : gs = s.gens := mv.gens
  obtain rfl : dr = s.drawn := mv.drawn
  obtain rfl : o2 = s.os := mv.os
  refine wpAny_pure (wpAny_pure ⟨rfl, g, tk, c, rfl, full, by rw [← len]; exact hc, fun b o e => ?_⟩)
  have lt : b < s.heap.objs.size := Heap.lt_size e
  refine mv.heap b o ?_ (Heap.get?_push_of_some _ (Heap.get?_push_of_some _ e))
  rw [Heap.size_push]
  simp only [List.mem_cons, List.not_mem_nil, or_false, not_or]
  exact ⟨Nat.ne_of_lt lt, Nat.ne_of_lt (Nat.lt_succ_of_lt lt)⟩
theorem call_set_listI {l : Addr} {its : Array Value} (ns : List Int) {Q : Value → Shared → Prop} (hh : A.handled = none) (hl : s.heap.IsList l its) (hit : IntsAre its.toList ns) (hb : ns.length + 1 < scanBound)
    (h : ∀ s2, Filled w ns s s2 → Q (.ref s.heap.objs.size) s2) : wpAny (model P w) A (call (.type "set") [.ref l]) Q E s := by
  obtain ⟨c, tl, b1⟩ := F.called_set.mro
  have b2 := F.called_set.made
  have b3 := F.called_set.sub
  refine wpAny_call (codeAny_of_tree (wpAny_pure ⟨Code.quiet_builtin _ (by decide +kernel), codeAny_builtin F.entry_type_call ?_⟩))
  rw [Around.under_plain (weight_type_call_type "set" [.ref l] []) rfl]
  have b4 := F.called_set.notType
  have b5 := F.called_set.canCreate
  have b6 := F.typeCall_set_1 (.ref l)
  repeat (any_goals (first | assumption | wp_step))
  refine codeAny_mono (code_set_led1 (.ref l) (E := E) (Q₁ := fun o s1 => o = .ref s.heap.objs.size ∧ s1 = { s with heap := s.heap.push (newS w) }) ⟨rfl, rfl⟩) fun r s1 hr => ?_
  cases r with
  | error e => exact hr
  | ok fl => cases fl with
    | ret o =>
      obtain ⟨rfl, rfl⟩ := hr
      have b7 := newS_set (w := w) (s := s)
      have b8 := F.called_set.init.lookup
      have b9 := F.called_set.init.bind (.ref s.heap.objs.size)
      repeat (any_goals (first | assumption | wp_step))
      refine codeAny_mono (init_list (E := E) ns (by simp [hh]) hl hit hb) fun r2 s3 hr2 => ?_
      cases r2 with
      | error e => exact hr2
      | ok fl2 => cases fl2 with
        | ret o2 =>
          obtain ⟨rfl, hf⟩ := hr2
          have last := h _ hf
          obtain ⟨g, tk, c, rfl, hrest⟩ := hf
          repeat (any_goals (first | assumption | wp_step))
        | _ => exact hr2.elim
    | _ => exact hr.elim
end
/-! ### sorted(set(xs)) -/
def rSetI (K : PySem.W.Frag) (w : World) : List V → Hp → VK → Prop := fun xs H Q => ∃ (a : Addr) (ns : List Int), xs = [.ref a] ∧ SqL K H a (ns.map V.int) ∧ ns.length + 1 < scanBound ∧
  ∀ (p : Addr) (c : Nat), H p = none → c ≤ ns.length → Q (.ref p) (upd H p (SetO w p (fun j => decide (j ∈ ns)) c))
theorem cr_setI {X : Cx} (hc : X.calm = true) : CallR X (.type "set") (rSetI X.K X.w) := by
  intro pins s σ H xs us Q I r ⟨a, ns, e, hs, hb, q⟩
  subst e
  rw [Vals.ref1 r]
  obtain ⟨its, rv, pl, hz⟩ := I.list hs
  refine call_set_listI ns (I.ok.hd hc) pl.isList (ints_of_vals rv) hb fun s2 ⟨g, tk, c, e2, R, hcn, old⟩ => ?_
  subst e2
  have hn : H s.heap.objs.size = none := I.hok.fresh (Nat.le_refl _)
  exact ⟨.ref _, _, I.laid old (Nat.le_refl _) (setO_new R), rfl, q _ c hn hcn⟩
def fSortedSet := fInts fun ns R => ns.length < 63 ∧ ∀ ns' : List Int, ns'.Pairwise (· < ·) → (∀ k, k ∈ ns' ↔ k ∈ ns) → R (.own (ns'.map .int))
section
variable {X : Cx} {G : Gx} {T : WX} {e : Expr} {pos p : Pos}
theorem de_sortedSet {x y : Str} {p2 pos2 : Pos} {u : WA} (hc : X.calm = true) (hg : Gl X x) (hm : X.mg x = none) (hv : bootBuiltins x = some (.builtin "sorted")) (hg2 : Gl X y) (hm2 : X.mg y = none) (hv2 : bootBuiltins y = some (.type "set")) (ha : DA X G T [e] u)
    (hn : x ≠ "__name__" := by decide) (hdb : (x == ("__debug__" : Str)) = false := by decide) (hn2 : y ≠ "__name__" := by decide) (hdb2 : (y == ("__debug__" : Str)) = false := by decide)
    (he : starEach [.Call (.Name y p2) [e] [] pos2] X.env = (false, eval (.Call (.Name y p2) [e] [] pos2) X.env) :: starEach [] X.env := by rfl) (hpl : (backTo pos (starEach [] X.env)).any (·.1) = false := by rfl)
    (he2 : starEach [e] X.env = (false, eval e X.env) :: starEach [] X.env := by rfl) (hpl2 : (backTo pos2 (starEach [] X.env)).any (·.1) = false := by rfl) :
    DE X G T (.Call (.Name x p) [.Call (.Name y p2) [e] [] pos2] [] pos) (wCallB fSortedSet u) :=
  pe_weak (pe_callB (cr_sortedSet hc) hg hm hv (pa_cons (pe_callTy (cr_setI hc) hg2 hm2 hv2 ha hn2 hdb2 he2 hpl2) pa_nil he) hn hdb he hpl) fun σ H Q ⟨W, ρ, R, Z, ok, h, hR, hZ⟩ => by
    refine ⟨W, ρ, _, Z, ok, h, fun ds ρ1 W1 xs H1 ⟨ns, e, f1, f2⟩ g d => ?_, hZ⟩
    obtain ⟨a, rfl, s⟩ := d.ints1 e
    refine ⟨a, ns, rfl, s, by have : scanBound = scanBound := rfl; unfold scanBound; omega, fun q c hq hcn => ?_⟩
    have g1 := Go.new (o := SetO X.w q (fun j => decide (j ∈ ns)) c) g.ok hq
    refine ⟨q, _, c, rfl, upd_same, by omega, fun ns' q' s1 s2 s3 hq' => ?_⟩
    refine hR _ _ _ _ _ (f2 ns' s1 fun k => by rw [s2]; simp) ((g.trans g1).trans (Go.new g1.ok hq')) (res_own g1.ok hq' ?_ (DnA.of_int ns'))
    exact g.stp.up q' (g1.stp.up q' hq')
end
end DL

/-! DL12: divmod, a jar beside a name, own dicts. -/
namespace DL
open PySem PySem.Spec L2
/-! ### divmod -/
def fDivmod (ds : List D) (R : S → Prop) : Prop := match ds with
  | [.int i, .int j] => (0 < j ∧ j < 1073741824) ∧ R (.d (.tup [.int (i / j), .int (i % j)]))
  | _ => False
theorem cd_divmod {K : PySem.W.Frag} : CaD K (fun xs H Q => ∃ i j, xs = [.int i, .int j] ∧ CDiv i j ∧ ∀ p, H p = none → Q (.ref p) (upd H p (.tup [.int (i / j), .int (i % j)]))) fDivmod := by
  intro G W ρ σ H ds xs R Q ok h f k
  match ds, h, f with
  | [.int i, .int j], .cons (.int _) (.cons (.int _) .nil), f =>
    exact ⟨i, j, rfl, f.1, fun p hp => k _ _ _ _ f.2 (.newF ok hp) (.of (res_tup ok hp (.cons (.int _) (.cons (.int _) .nil))))⟩
section
variable {X : Cx} {G : Gx} {T : WX} {e : Expr} {w : WE} {pos p tpos : Pos}
/-! ### x[k], y = e: x a jar -/
def wAsgJ (i j : Nat) (k : Int) (w : WE) : WS := fun E ρ => w E.ex ρ fun d ρ1 => ∃ d1 d2, d.frz = .tup [d1, d2] ∧ ρ1[i]? = some (some (.d .jar)) ∧ sIx (.d .jar) (.int k) d1 fun _ => E.nx (ρ1.set j (some (.d d2)))
theorem ds_asgJ (i j : Nat) {k : Int} {x y : Str} {idx : Expr} {py pt : Pos} {kt : Nat} (he : DE X G T e w) (hk : PE X idx fun _ H Q => Q (.int k) H) (hNd : X.N.Nodup) (hN : X.N[i]? = some x := by rfl) (hj : X.N[j]? = some y := by rfl) (hv : Vis X.env.scope x := by first | exact Or.inl rfl | exact Or.inr (Or.inl rfl) | exact Or.inr (Or.inr rfl)) (hd : (x == ("__debug__" : Str)) = false := by decide) (hcd : (x == ("__classdict__" : Str)) = false := by decide)
    (hx : Loc X.env.scope y := by first | exact .inl rfl | exact .inr rfl) (hf : X.fn y = true ∨ X.env.scope.names.lookup y = some .local := by first | exact .inr rfl | exact .inl rfl | assumption)
    (ha : ∀ v, assign (.Subscript (.Name x p) idx tpos) X.env v = (do
      let ov ← holding [v] (eval (.Name x p) X.env)
      let iv ← holding [v, ov] (eval idx X.env)
      standAt tpos
      holding [v, ov, iv] (setItem ov iv v)
      release [v, ov, iv] []) := by intro _; rfl)
    (hc : X.calm = true := by rfl) (hn : (assignEach [.Subscript (.Name x p) idx tpos, .Name y py] X.env).length = 2 := by rfl) (hst : (assignEach [.Subscript (.Name x p) idx tpos, .Name y py] X.env).findIdx? (·.1) = none := by rfl)
    (hs1 : (assignEach [.Subscript (.Name x p) idx tpos, .Name y py] X.env).map (·.2) = assign (.Subscript (.Name x p) idx tpos) X.env :: (assignEach [.Name y py] X.env).map (·.2) := by rfl) (hs2 : (assignEach [.Name y py] X.env).map (·.2) = assign (.Name y py) X.env :: (assignEach [] X.env).map (·.2) := by rfl)
    (hs : swapsWithSole [.Tuple [.Subscript (.Name x p) idx tpos, .Name y py] kt pt] e pos.line X.env = pure false := by rfl) (hw : swappedStores [.Tuple [.Subscript (.Name x p) idx tpos, .Name y py] kt pt] e X.env = pure none := by rfl)
    (h1 : (assignEach [.Tuple [.Subscript (.Name x p) idx tpos, .Name y py] kt pt] X.env).map (·.2) = [assign (.Tuple [.Subscript (.Name x p) idx tpos, .Name y py] kt pt) X.env] := by rfl) :
    DS X G T (.Assign [.Tuple [.Subscript (.Name x p) idx tpos, .Name y py] kt pt] e pos) (wAsgJ i j k w) :=
  ps_weak (ps_asg he (pg_tup hc (pgs_cons (pg_sub (pv i hN hv hd hcd) hk set_list ha) (pgs_cons (pg_name hNd hj hx hf) pgs_nil hs2) hs1) hn hst) hs hw h1) fun D σ H ⟨W, ρ, E, ok, h, hn, hr, hb, hc, hx⟩ => by
    refine lE_then (R := fun d ρ1 => ∃ d1 d2, d = .tup [d1, d2] ∧ ρ1[i]? = some (some (.d .jar)) ∧ sIx (.d .jar) (.int k) d1 fun _ => E.nx (ρ1.set j (some (.d d2)))) ok h (hx.z σ ρ) fun d ρ1 W1 v H1 ⟨d1, d2, ed, ej, hj1⟩ g1 dv => ?_
    subst ed
    cases dv with
    | tup sq da =>
      cases da with
      | cons da1 da2 =>
        cases da2 with
        | cons da2 da3 =>
          cases da3
          rename_i a v1 v2
          refine ⟨a, [v1, v2], rfl, sq.sq, rfl, ⟨v1, [v2], rfl, ?_⟩⟩
          obtain ⟨z, ez, r⟩ := g1.ok.val i _ ej
          have r' : Dn X.K W1 H1 .jar z := r
          cases r' with
          | jar ja =>
            rename_i a2
            obtain ⟨x0, y0, z0, e3, b3⟩ := g1.ok.al.j _ ja
            obtain ⟨hj, ⟨n, rfl, hb⟩, hN'⟩ := hj1
            cases da1
            refine ⟨_, ez, ?_⟩
            have fin : ∀ (xs : List V) {W3 : Wd}, Go X.K G σ ρ1 W1 H1 ρ1 W3 (upd H1 a2 (.lst xs)) → gCons (gName j) gNil [v2] σ (upd H1 a2 (.lst xs)) D.nx := fun xs W3 g3 => by
              refine ⟨v2, [], rfl, rfl, ?_⟩
              exact hn _ W3 _ _ hN' (g3.ok.set (i := j) (d := .d d2) (da2.le g3.stp.le) fun o => by cases o) (g1.stp.le.trans g3.stp.le)
            rcases hj with rfl | rfl | rfl
            · exact ⟨a2, _, 0, 0, rfl, rfl, e3, rfl, fin _ (g1.ok.wjar (x := n) (y := y0) (z := z0) ja b3)⟩
            · exact ⟨a2, _, 1, 1, rfl, rfl, e3, rfl, fin _ (g1.ok.wjar (x := x0) (y := n) (z := z0) ja (hb rfl))⟩
            · exact ⟨a2, _, 2, 2, rfl, rfl, e3, rfl, fin _ (g1.ok.wjar (x := x0) (y := y0) (z := n) ja b3)⟩
end
end DL

/-! DL13: own dicts. -/
namespace DL
open PySem PySem.Spec L2
def valD (kvs : List (Key × D)) (k : Key) : Option D := (kvs.find? fun kv => decide (kv.1 = k)).map (·.2)
def putD (kvs : List (Key × D)) (k : Key) (v : D) : List (Key × D) :=
  if (kvs.any fun kv => decide (kv.1 = k)) = true then kvs.map (fun kv => if kv.1 = k then (kv.1, v) else kv) else kvs ++ [(k, v)]
def D.key : D → Option Key
  | .int i => some (.inl i)
  | .str s => some (.inr s)
  | _ => none
def keyD : Key → D
  | .inl i => .int i
  | .inr s => .str s
section
variable {K : PySem.W.Frag} {W : Wd} {H : Hp}
theorem DnK.val {k : Key} : ∀ {ds : List (Key × D)} {vs : List (Key × V)}, DnK K W H ds vs → (valD ds k = none ∧ valV vs k = none) ∨ ∃ d v, valD ds k = some d ∧ valV vs k = some v ∧ Dn K W H d v
  | _, _, .nil => .inl ⟨rfl, rfl⟩
  | (k', d) :: ds, (_, v) :: vs, .cons h1 h2 => by
    by_cases e : k' = k
    · exact .inr ⟨d, v, by simp [valD, e], by simp [valV, e], h1⟩
    · rcases DnK.val (k := k) h2 with ⟨a, b⟩ | ⟨d', v', a, b, c⟩
      · exact .inl ⟨by simpa [valD, e] using a, by simpa [valV, e] using b⟩
      · exact .inr ⟨d', v', by simpa [valD, e] using a, by simpa [valV, e] using b, c⟩
theorem DnK.any {k : Key} : ∀ {ds : List (Key × D)} {vs : List (Key × V)}, DnK K W H ds vs → (ds.any fun kv => decide (kv.1 = k)) = vs.any fun kv => decide (kv.1 = k)
  | _, _, .nil => rfl
  | _, _, .cons h1 h2 => by simp only [List.any_cons, DnK.any h2]
theorem DnK.repl {k : Key} {d : D} {v : V} (h : Dn K W H d v) : ∀ {ds : List (Key × D)} {vs : List (Key × V)}, DnK K W H ds vs → DnK K W H (ds.map fun kv => if kv.1 = k then (kv.1, d) else kv) (vs.map fun kv => if kv.1 = k then (kv.1, v) else kv)
  | _, _, .nil => .nil
  | (k', x) :: ds, (_, y) :: vs, .cons h1 h2 => by
    by_cases e : k' = k
    · simp only [List.map_cons, e, if_true]; exact .cons h (DnK.repl h h2)
    · simp only [List.map_cons, e, if_false]; exact .cons h1 (DnK.repl h h2)
theorem DnK.snoc {k : Key} {d : D} {v : V} (h : Dn K W H d v) : ∀ {ds : List (Key × D)} {vs : List (Key × V)}, DnK K W H ds vs → DnK K W H (ds ++ [(k, d)]) (vs ++ [(k, v)])
  | _, _, .nil => .cons h .nil
  | _, _, .cons h1 h2 => .cons h1 (DnK.snoc h h2)
theorem DnK.put {k : Key} {d : D} {v : V} (h : Dn K W H d v) {ds : List (Key × D)} {vs : List (Key × V)} (r : DnK K W H ds vs) : DnK K W H (putD ds k d) (putK vs k v) := by
  unfold putD putK
  rw [r.any]
  split
  · exact r.repl h
  · exact r.snoc h
theorem DnK.length : ∀ {ds : List (Key × D)} {vs : List (Key × V)}, DnK K W H ds vs → ds.length = vs.length
  | _, _, .nil => rfl
  | _, _, .cons _ h => congrArg (· + 1) h.length
theorem DnK.keys : ∀ {ds : List (Key × D)} {vs : List (Key × V)}, DnK K W H ds vs → ds.map (·.1) = vs.map (·.1)
  | _, _, .nil => rfl
  | _, _, .cons _ h => by simp only [List.map_cons, h.keys]
theorem dn_key {d : D} {x : V} {k : Key} (h : Dn K W H d x) (e : d.key = some k) : x = kV k := by
  cases h <;> cases e <;> rfl
theorem dn_keyD (k : Key) : Dn K W H (keyD k) (kV k) := by
  cases k
  · exact .int _
  · exact .str _
/-- a dict read at a key -/
theorem dgetS {s : S} {x : V} {kvs : List (Key × D)} {k : Key} (h : Rs K W H s x) (e : s.frz = .dic kvs) : ∃ a vs, x = .ref a ∧ Rd H a (.dK vs) ∧ DnK K W H kvs vs := by
  cases s with
  | own ds => cases e
  | odic ds =>
    cases e
    obtain ⟨p, vs, h1, h2, h3⟩ := h
    exact ⟨p, vs, h1, .inl h2, h3⟩
  | d d =>
    have e' : d = .dic kvs := e
    subst e'
    have h' : Dn K W H (.dic kvs) x := h
    cases h' with
    | dic h1 h2 h3 => exact ⟨_, _, rfl, h2.rd, h3⟩
end
section
variable {X : Cx} {G : Gx} {T : WX} {a b c e : Expr} {w wk wd : WE} {pos p apos cpos : Pos}
def dGet (d k : D) (N : D → Prop) : Prop := match d, k.key with
  | .dic kvs, some κ => ∃ v, valD kvs κ = some v ∧ N v
  | _, _ => False
def dGetE (d k z : D) (N : D → Prop) : Prop := match d, k.key with
  | .dic kvs, some κ => N ((valD kvs κ).getD z)
  | _, _ => False
/-- x[k], x a slot with a dict -/
def wDget (i : Nat) (wk : WE) : WE := fun Z ρ R => (∃ s0, ρ[i]? = some (some s0)) ∧ wk Z ρ fun k ρ1 => match ρ1[i]? with
  | some (some s) => dGet s.frz k.frz fun z => R (.d z) ρ1
  | _ => False
theorem dget_of {d k : D} {N : D → Prop} (h : dGet d k N) : ∃ kvs κ v, d = .dic kvs ∧ k.key = some κ ∧ valD kvs κ = some v ∧ N v := by
  unfold dGet at h
  split at h
  · rename_i kvs κ e
    obtain ⟨v, h1, h2⟩ := h
    exact ⟨kvs, κ, v, rfl, e, h1, h2⟩
  · exact h.elim
theorem dgetE_of {d k z : D} {N : D → Prop} (h : dGetE d k z N) : ∃ kvs κ, d = .dic kvs ∧ k.key = some κ ∧ N ((valD kvs κ).getD z) := by
  unfold dGetE at h
  split at h
  · rename_i kvs κ e
    exact ⟨kvs, κ, rfl, e, h⟩
  · exact h.elim
theorem de_dget (i : Nat) {x : Str} (hu : X.A.units + 1 < cLine) (hb : DE X G T b wk) (hN : X.N[i]? = some x := by rfl) (hv : Vis X.env.scope x := by first | exact Or.inl rfl | exact Or.inr (Or.inl rfl) | exact Or.inr (Or.inr rfl)) (hd : (x == ("__debug__" : Str)) = false := by decide)
    (hcd : (x == ("__classdict__" : Str)) = false := by decide) (hs : NoSl b := by intro _ _; rfl) : DE X G T (.Subscript (.Name x p) b pos) (wDget i wk) :=
  pe_weak (pe_dget hu (pv i hN hv hd hcd) hb hs) fun σ H Q ⟨W, ρ, R, Z, ok, ⟨⟨s0, e0⟩, h⟩, hR, hZ⟩ => by
    obtain ⟨x, _, ex, _⟩ := ok.look e0
    refine ⟨x, ex, ?_⟩
    refine lE_then (R := fun k ρ1 => match ρ1[i]? with | some (some s) => dGet s.frz k fun z => R (.d z) ρ1 | _ => False) ok h hZ fun k ρ1 W1 y H1 h1 g1 d1 => ?_
    split at h1
    · rename_i s e1
      obtain ⟨x', e2, r⟩ := g1.ok.val i s e1
      rw [ex] at e2; cases e2
      obtain ⟨kvs, κ, v, f1, f2, f3, f4⟩ := dget_of h1
      obtain ⟨q, vs, rfl, hq, da⟩ := dgetS (k := κ) r f1
      rcases da.val (k := κ) with ⟨z, _⟩ | ⟨d', v', z1, z2, z3⟩
      · rw [f3] at z; cases z
      · rw [f3] at z1; cases z1
        exact ⟨q, v', rfl, .inl ⟨vs, κ, hq, dn_key d1 f2, z2.symm⟩, hR _ ρ1 W1 v' H1 f4 g1 (.of z3)⟩
    · exact h1.elim
/-- x.get(k, z), x a slot with a dict -/
def wDget2 (i : Nat) (wk wd : WE) : WE := fun Z ρ R => (∃ s0 kvs, ρ[i]? = some (some s0) ∧ s0.frz = .dic kvs) ∧ wk Z ρ fun k ρ1 => wd Z ρ1 fun z ρ2 => match ρ2[i]? with
  | some (some s) => dGetE s.frz k.frz z.frz fun z => R (.d z) ρ2
  | _ => False
theorem de_dget2 (i : Nat) {x : Str} (hu : X.A.units + 1 < cLine) (hb : DE X G T b wk) (hc : DE X G T c wd) (m : M2 X (.Name x p) "get" apos b c cpos) (hN : X.N[i]? = some x := by rfl) (hv : Vis X.env.scope x := by first | exact Or.inl rfl | exact Or.inr (Or.inl rfl) | exact Or.inr (Or.inr rfl)) (hd : (x == ("__debug__" : Str)) = false := by decide)
    (hcd : (x == ("__classdict__" : Str)) = false := by decide) : DE X G T (.Call (.Attribute (.Name x p) "get" apos) [b, c] [] cpos) (wDget2 i wk wd) :=
  pe_weak (pe_dget2 hu (pv i hN hv hd hcd) hb hc m) fun σ H Q ⟨W, ρ, R, Z, ok, ⟨⟨s0, kv0, e0, e00⟩, h⟩, hR, hZ⟩ => by
    obtain ⟨x, ex, r0⟩ := ok.val i s0 e0
    obtain ⟨q, vs0, rfl, hq0, _⟩ := dgetS (k := .inl 0) r0 e00
    refine ⟨_, ex, q, rfl, .inl ⟨vs0, hq0⟩, ?_⟩
    refine lE_then (R := fun k ρ1 => wd Z ρ1 fun z ρ2 => match ρ2[i]? with | some (some s) => dGetE s.frz k z.frz fun z => R (.d z) ρ2 | _ => False) ok h hZ fun k ρ1 W1 y H1 h1 g1 d1 => ?_
    refine lE_then (R := fun z ρ2 => match ρ2[i]? with | some (some s) => dGetE s.frz k z fun z => R (.d z) ρ2 | _ => False) g1.ok h1 (hZ.go g1) fun z ρ2 W2 y2 H2 h2 g2 d2 => ?_
    split at h2
    · rename_i s e1
      obtain ⟨x', e2, r⟩ := g2.ok.val i s e1
      rw [ex] at e2; cases e2
      obtain ⟨kvs, κ, f1, f2, f4⟩ := dgetE_of h2
      obtain ⟨q', vs, eq, hq, da⟩ := dgetS (k := κ) r f1
      cases eq
      refine ⟨valV vs κ, .inl ⟨vs, κ, hq, dn_key (d1.le g2.stp.le) f2, rfl⟩, ?_⟩
      rcases da.val (k := κ) with ⟨z1, z2⟩ | ⟨d', v', z1, z2, z3⟩
      · rw [z1] at f4; rw [z2]
        exact hR _ ρ2 W2 y2 H2 f4 (g1.trans g2) (.of d2)
      · rw [z1] at f4; rw [z2]
        exact hR _ ρ2 W2 v' H2 f4 (g1.trans g2) (.of z3)
    · exact h2.elim
/-- x[k] = e, x a slot with a dict of its own -/
def wDput (i : Nat) (wk w : WE) : WS := fun E ρ => w E.ex ρ fun d ρ1 => (∃ s0, ρ1[i]? = some (some s0)) ∧ wk E.ex ρ1 fun k ρ2 => match ρ2[i]?, k.frz.key with
  | some (some (.odic kvs)), some κ => kvs.length < sizeLine ∧ E.nx (ρ2.set i (some (.odic (putD kvs κ d.frz))))
  | _, _ => False
theorem ds_dput (i : Nat) {x : Str} {idx : Expr} {tpos : Pos} (hu : X.A.units + 1 < cLine) (he : DE X G T e w) (hk : DE X G T idx wk) (hN : X.N[i]? = some x := by rfl) (hv : Vis X.env.scope x := by first | exact Or.inl rfl | exact Or.inr (Or.inl rfl) | exact Or.inr (Or.inr rfl)) (hd : (x == ("__debug__" : Str)) = false := by decide) (hcd : (x == ("__classdict__" : Str)) = false := by decide)
    (hs : swapsWith e (some (.Subscript (.Name x p) idx tpos)) pos.line X.env = pure false := by rfl) :
    DS X G T (.Assign [.Subscript (.Name x p) idx tpos] e pos) (wDput i wk w) :=
  ps_weak (ps_dput hu (pv i hN hv hd hcd) hk he hs) fun D σ H ⟨W, ρ, E, ok, h, hn, hr, hb, hc, hx⟩ => by
    refine lE_then (R := fun d ρ1 => (∃ s0, ρ1[i]? = some (some s0)) ∧ wk E.ex ρ1 fun k ρ2 => match ρ2[i]?, k.frz.key with
      | some (some (.odic kvs)), some κ => kvs.length < sizeLine ∧ E.nx (ρ2.set i (some (.odic (putD kvs κ d))))
      | _, _ => False) ok h (hx.z σ ρ) fun d ρ1 W1 x1 H1 ⟨⟨s0, e0⟩, h1⟩ g1 d1 => ?_
    obtain ⟨y, _, ey, _⟩ := g1.ok.look e0
    refine ⟨y, ey, ?_⟩
    refine lE_then (R := fun k ρ2 => match ρ2[i]?, k.key with
      | some (some (.odic kvs)), some κ => kvs.length < sizeLine ∧ E.nx (ρ2.set i (some (.odic (putD kvs κ d))))
      | _, _ => False) g1.ok h1 ((hx.z σ ρ).go g1) fun k ρ2 W2 x2 H2 h2 g2 d2 => ?_
    have g12 := g1.trans g2
    split at h2
    · rename_i kvs κ e2 ek
      obtain ⟨y1, ey1, r⟩ := g2.ok.val i _ e2
      rw [ey] at ey1; cases ey1
      have d1' := d1.le g2.stp.le
      obtain ⟨q, vs, rfl, hq, da⟩ := r
      have nf := (g2.ok.frs q ⟨i, _, e2, rfl, ey⟩).1
      have l : Le W2 H2 W2 (upd H2 q (.dK (putK vs κ x1))) := ⟨fun _ h => h, fun _ h => h, fun a z => upd_ne fun z2 => nf (by rw [← z2]; exact z)⟩
      have g3 := g2.ok.wslot (s' := .odic (putD kvs κ d)) (o := .dK (putK vs κ x1)) e2 ey rfl rfl ⟨q, _, rfl, upd_same, (DnK.put d1' da).le l⟩
      exact ⟨q, _, rfl, .inl ⟨vs, κ, hq, dn_key d2 ek, by rw [← da.length]; exact h2.1, rfl⟩, hn _ W2 σ _ h2.2 g3.ok (g12.stp.le.trans g3.stp.le)⟩
    · exact h2.elim
/-! ### displays -/
def wDic0 : WE := fun _ ρ R => R (.odic []) ρ
theorem de_dic0 : DE X G T (.Dict [] [] pos) wDic0 :=
  pe_weak pe_dnewK fun σ H Q ⟨W, ρ, R, Z, ok, h, hR, hZ⟩ q hq => hR _ ρ W _ _ h (.new ok hq) ⟨⟨q, [], rfl, upd_same, .nil⟩, fun _ q' e => by
    cases e
    refine ⟨fun z => ?_, fun z => ?_, hq⟩
    · obtain ⟨o, e⟩ := ok.al.f q z; rw [hq] at e; cases e
    · obtain ⟨x, y, z, e, _⟩ := ok.al.j q z; rw [hq] at e; cases e⟩
/-- {k: v}, ints of the text -/
def wDic1 (k v : Int) : WE := fun _ ρ R => R (.odic [(.inl k, .int v)]) ρ
theorem de_dic1 {k v : Int} {ek ev : Expr} (hk : PE X ek fun _ H Q => Q (.int k) H) (hv : PE X ev fun _ H Q => Q (.int v) H) : DE X G T (.Dict [some ek] [ev] pos) (wDic1 k v) :=
  pe_weak (pe_disp (pps_cons hk hv pps_nil) (by rfl) (by rfl) (by simp) (by simp)) fun σ H Q ⟨W, ρ, R, Z, ok, h, hR, hZ⟩ q hq => by
    refine ⟨upd_same, [(.inl k, .int v)], rfl, by simp, ?_⟩
    have e : upd (upd H q (.dK [])) q (.dK (mergeK [] [(.inl k, .int v)])) = upd H q (.dK [(.inl k, V.int v)]) := by
      funext a
      by_cases z : a = q
      · subst z; rw [upd_same, upd_same]; rfl
      · rw [upd_ne z, upd_ne z, upd_ne z]
    rw [e]
    exact hR _ ρ W _ _ h (.new ok hq) ⟨⟨q, _, rfl, upd_same, .cons (.int v) .nil⟩, fun _ q' e => by
      cases e
      refine ⟨fun z => ?_, fun z => ?_, hq⟩
      · obtain ⟨o, e⟩ := ok.al.f q z; rw [hq] at e; cases e
      · obtain ⟨x, y, z, e, _⟩ := ok.al.j q z; rw [hq] at e; cases e⟩
/-! ### an own thing goes from slot to slot, out of the def -/
theorem Ok.drop {K : PySem.W.Frag} {σ : L2.St} {ρ : Rho} {W : Wd} {H : Hp} (ok : Ok K G W ρ σ H) (j : Nat) : Ok K G W (ρ.set j none) σ H := by
  have sub : ∀ (i : Nat) (d : S), (ρ.set j none)[i]? = some (some d) → ρ[i]? = some (some d) := fun i d h => by
    rcases set_get h with ⟨_, z⟩ | ⟨_, z⟩
    · cases z
    · exact z
  have ow : ∀ a, Ow (ρ.set j none) σ a → Ow ρ σ a := fun a ⟨i, d, h1, h2, h3⟩ => ⟨i, d, sub i d h1, h2, h3⟩
  exact ⟨by rw [List.length_set, ok.len], fun i d h => ok.val i d (sub i d h), fun a h => ok.frs a (ow a h), fun i j d e a h1 h2 o1 o2 s1 s2 => ok.inj i j d e a (sub i d h1) (sub j e h2) o1 o2 s1 s2, ok.al, ok.en⟩
/-- x = y, y not asked any more -/
def wMov (i j : Nat) : WS := fun E ρ => match ρ[j]? with
  | some (some s) => E.nx ((ρ.set j none).set i (some s))
  | _ => False
theorem ds_mov (i j : Nat) {x y : Str} {px : Pos} (hNd : X.N.Nodup) (hi : X.N[i]? = some x := by rfl) (hN : X.N[j]? = some y := by rfl) (hv : Vis X.env.scope y := by first | exact Or.inl rfl | exact Or.inr (Or.inl rfl) | exact Or.inr (Or.inr rfl)) (hd : (y == ("__debug__" : Str)) = false := by decide) (hcd : (y == ("__classdict__" : Str)) = false := by decide)
    (hx : Loc X.env.scope x := by first | exact .inl rfl | exact .inr rfl) (hs : swapsWith (.Name y p) (some (.Name x px)) pos.line X.env = pure false := by rfl) (hf : X.fn x = true ∨ X.env.scope.names.lookup x = some .local := by first | exact .inr rfl | exact .inl rfl | assumption) :
    DS X G T (.Assign [.Name x px] (.Name y p) pos) (wMov i j) :=
  ps_weak (ps_set hNd hi hx (pv j hN hv hd hcd) hs hf) fun D σ H ⟨W, ρ, E, ok, h, hn, hr, hb, hc, hxx⟩ => by
    unfold wMov at h
    split at h
    · rename_i s e
      obtain ⟨v, ev, r⟩ := ok.val j s e
      refine ⟨v, ev, ?_⟩
      refine hn _ W _ H h ((ok.drop j).set r fun o q eq => ?_) (.refl _ _)
      subst eq
      obtain ⟨a, b, c⟩ := ok.frs q ⟨j, s, e, o, ev⟩
      refine ⟨a, b, c, fun ⟨m, d, d1, d2, d3⟩ => ?_⟩
      rcases set_get d1 with ⟨_, z⟩ | ⟨z1, z⟩
      · cases z
      · exact z1 (ok.inj j m s d q e z o d2 ev d3)
    · exact h.elim
/-- return x, as it is -/
def wRetV (j : Nat) : WS := fun E ρ => match ρ[j]? with
  | some (some s) => E.rt s
  | _ => False
theorem ds_retV (j : Nat) {y : Str} (hN : X.N[j]? = some y := by rfl) (hv : Vis X.env.scope y := by first | exact Or.inl rfl | exact Or.inr (Or.inl rfl) | exact Or.inr (Or.inr rfl)) (hd : (y == ("__debug__" : Str)) = false := by decide) (hcd : (y == ("__classdict__" : Str)) = false := by decide) :
    DS X G T (.Return (some (.Name y p)) pos) (wRetV j) :=
  ps_weak (ps_ret (pv j hN hv hd hcd)) fun D σ H ⟨W, ρ, E, ok, h, hn, hr, hb, hc, hxx⟩ => by
    unfold wRetV at h
    split at h
    · rename_i s e
      obtain ⟨v, ev, r⟩ := ok.val j s e
      exact ⟨v, ev, hr s ρ W σ v H h ok (.refl _ _) ⟨r, fun o q eq => by
        subst eq
        obtain ⟨a, b, c⟩ := ok.frs q ⟨j, s, e, o, ev⟩
        exact ⟨a, b, c⟩⟩⟩
    · exact h.elim
/-! ### for k in x, x a slot with a dict of its own: it is not changed any more -/
def wKeysV (i : Nat) : WI := fun _ ρ N => match ρ[i]? with
  | some (some (.odic kvs)) => N (kvs.map fun kv => keyD kv.1) (ρ.set i (some (.d (.dic kvs))))
  | _ => False
def iKeysL (td : TE) : TI := fun σ H R => td σ H fun x H1 => ∃ d kvs, x = .ref d ∧ H1 d = some (.dK kvs) ∧ ∀ od, R (Itk d od kvs) (upd H1 d (.frz od (.dK kvs)))
theorem pi_keysL {tg : Expr} {td : TE} (he : PE X e td) : PI X tg e (iKeysL td) := by
  refine ⟨fun pins s σ H R I h => ?_⟩
  refine thn (he.run pins s σ H _ I h) fun u s1 ⟨x, H1, I1, rx, d, kvs, ex, hd, q⟩ => ?_
  subst ex
  obtain rfl : u = Value.ref d := rx
  obtain ⟨od, J⟩ := I1.lock hd True.intro
  obtain ⟨hs, hgd, hx, es, ep, vs, hdt, hsz, kv, hm⟩ := J.frzK upd_same
  refine iter_keys hs hgd hx hdt (pi_one (tk := s1.toks) J _ (turn_keys _ hdt) ⟨_, Heap.get?_push_size _ rfl, rfl, ?_⟩ (q od))
  rw [hsz] <;> rfl
theorem Ok.lockS {K : PySem.W.Frag} {σ : L2.St} {ρ : Rho} {W : Wd} {H : Hp} {kvs : List (Key × D)} {vs : List (Key × V)} {i : Nat} {q : Addr} {od : Obj} (ok : Ok K G W ρ σ H) (e : ρ[i]? = some (some (.odic kvs))) (ev : σ[i]? = some (some (.ref q))) (hq : H q = some (.dK vs)) (da : DnK K W H kvs vs) :
    Go K G σ ρ W H (ρ.set i (some (.d (.dic kvs)))) (W.add q) (upd H q (.frz od (.dK vs))) := by
  have hO : Ow ρ σ q := ⟨i, _, e, rfl, ev⟩
  obtain ⟨nf, nj, h0⟩ := ok.frs q hO
  have l : Le W H (W.add q) (upd H q (.frz od (.dK vs))) := ⟨fun _ h => .inl h, fun _ h => h, fun a h => upd_ne fun z => nf (by rw [← z]; exact h)⟩
  have sub : ∀ a, Ow (ρ.set i (some (.d (.dic kvs)))) σ a → Ow ρ σ a ∧ a ≠ q := fun a ⟨j, d, d1, d2, d3⟩ => by
    rcases set_get d1 with ⟨_, z2⟩ | ⟨z1, z2⟩
    · cases z2; cases d2
    · refine ⟨⟨j, d, z2, d2, d3⟩, fun z => ?_⟩
      subst z
      exact z1 (ok.inj i j _ d a e z2 rfl d2 ev d3)
  have al : Al (W.add q) (upd H q (.frz od (.dK vs))) := by
    refine ⟨fun a h => ?_, fun a h => ?_, fun a h z => z.elim (ok.al.d a h) fun e => nj (by rw [← e]; exact h)⟩
    · rcases h with h | h
      · rw [upd_ne fun z => nf (by rw [← z]; exact h)]; exact ok.al.f a h
      · rw [h]; exact ⟨_, upd_same⟩
    · obtain ⟨x, y, z, e1, b⟩ := ok.al.j a h
      exact ⟨x, y, z, by rw [upd_ne fun z => nj (by rw [← z]; exact h)]; exact e1, b⟩
  have up : ∀ a, upd H q (.frz od (.dK vs)) a = none → H a = none := fun a h => by
    by_cases z : a = q
    · subst z; rw [upd_same] at h; cases h
    · rwa [upd_ne z] at h
  refine ⟨⟨by rw [ok.len, List.length_set], fun j d hj => ?_, fun a h => ?_, fun j m d d' a h1 h2 o1 o2 s1 s2 => ?_, al, ?_⟩, ?_, fun a h => (sub a h).1⟩
  · rcases set_get hj with ⟨z1, z2⟩ | ⟨z1, z2⟩
    · cases z2; subst z1
      exact ⟨_, ev, .dic (.inr rfl) ⟨.inr ⟨od, upd_same⟩⟩ (DnK.le l da)⟩
    · obtain ⟨y, e1, e2⟩ := ok.val j d z2
      refine ⟨y, e1, e2.le l fun o p ep => upd_ne fun z => z1 ?_⟩
      subst ep z
      exact ok.inj i j _ d p e z2 rfl o ev e1
  · obtain ⟨a1, a2⟩ := sub a h
    obtain ⟨b1, b2, b3⟩ := ok.frs a a1
    exact ⟨fun z => z.elim b1 a2, b2, b3⟩
  · rcases set_get h1 with ⟨_, z2⟩ | ⟨_, z2⟩
    · cases z2; cases o1
    · rcases set_get h2 with ⟨_, y2⟩ | ⟨_, y2⟩
      · cases y2; cases o2
      · exact ok.inj j m d d' a z2 y2 o1 o2 s1 s2
  · refine ⟨ok.en.le.trans l, fun a h => h.elim (ok.en.nF a) fun e => .inr (.inl (by rw [e]; exact h0)), ok.en.nJ, fun a v hv nj' no => ?_, fun a h => ok.en.up a (up a h)⟩
    rw [upd_ne (ne_of_none hv h0)]; exact ok.en.st a v hv nj' no
  · refine ⟨l, fun a h => h.elim .inl fun e => .inr (.inr (by rw [e]; exact hO)), fun _ h => .inl h, fun a v hv nj' no => ?_, up⟩
    rw [upd_ne fun z => no (by rw [z]; exact hO)]; exact hv
theorem di_keysV {tg : Expr} (i : Nat) {x : Str} (hN : X.N[i]? = some x := by rfl) (hv : Vis X.env.scope x := by first | exact Or.inl rfl | exact Or.inr (Or.inl rfl) | exact Or.inr (Or.inr rfl)) (hd : (x == ("__debug__" : Str)) = false := by decide) (hcd : (x == ("__classdict__" : Str)) = false := by decide) :
    DI X G T tg (.Name x p) (wKeysV i) :=
  pi_weak (pi_keysL (pv i hN hv hd hcd)) fun σ H R ⟨W, ρ, N, Z, ok, h, hN, hZ⟩ => by
    unfold wKeysV at h
    split at h
    · rename_i kvs e
      obtain ⟨v, ev, ⟨q, vs, rfl, hq, da⟩⟩ := ok.val i _ e
      refine ⟨_, ev, q, vs, rfl, hq, fun od => ?_⟩
      have g := ok.lockS (od := od) e ev hq da
      refine hN _ _ _ _ _ h g fun j W1 H1 l al => ?_
      have hd1 : H1 q = some (.frz od (.dK vs)) := by rw [l.k q (.inr rfl)]; exact upd_same
      have hl := da.length
      refine ⟨fun hj => ⟨hd1, by rw [List.length_map] at hj; omega⟩, fun d hd => ?_⟩
      rw [List.getElem?_map] at hd
      obtain ⟨kv, hkv, rfl⟩ := Option.map_eq_some_iff.mp hd
      have hlt : j < kvs.length := (List.getElem?_eq_some_iff.mp hkv).1
      refine ⟨⟨hd1, by omega⟩, fun y H2 ⟨e2, k, v, e3, e4⟩ => ?_⟩
      subst e2 e4
      have ek : k = kv.1 := by
        have := congrArg (fun l => l[j]?) da.keys
        simp only [List.getElem?_map, hkv, e3, Option.map_some] at this
        exact (Option.some.inj this).symm
      subst ek
      exact ⟨W1, .refl _ _ _, al, dn_keyD kv.1⟩
    · exact h.elim
end
end DL

/-! DL14: how the readings of DL10 to DL13 are shown. -/
namespace DL
open PySem PySem.Spec L2
variable {E : DEnds} {ρ : Rho} {Z : ZK} {R : S → Rho → Prop} {u v : WS} {w wa wb wc wk wd : WE} {t t1 : WT} {i j : Nat}
theorem CxG.u1 {X : Cx} {T : WX} {k : Nat} (c : CxG X T k) : X.A.units + 1 < cLine := by have := c.u64; omega
theorem x_frz : wFrz i u E ρ = u E (frzR ρ i) := rfl
theorem x_frzR : frzR ρ i = match ρ[i]? with
  | some (some d) => if d.isOwn = true then ρ.set i (some (.d d.frz)) else ρ
  | _ => ρ := rfl
theorem x_lc2 {wi wi1 : WI} {f f1 : TgF} {vs vs1 : List Nat} : wLc2 wi f t wi1 f1 t1 w vs vs1 Z ρ R = wi Z ρ fun ds ρ1 => NoOwn ρ1 vs ∧ wLcL2 f t wi1 f1 t1 w vs1 (wipeR ρ1 vs) (fun acc => R (.own acc) ρ1) ds [] := rfl
theorem x_dget : wDget i wk Z ρ R = ((∃ s0, ρ[i]? = some (some s0)) ∧ wk Z ρ fun k ρ1 => match ρ1[i]? with
  | some (some s) => dGet s.frz k.frz fun z => R (.d z) ρ1
  | _ => False) := rfl
theorem x_dget2 : wDget2 i wk wd Z ρ R = ((∃ s0 kvs, ρ[i]? = some (some s0) ∧ s0.frz = .dic kvs) ∧ wk Z ρ fun k ρ1 => wd Z ρ1 fun z ρ2 => match ρ2[i]? with
  | some (some s) => dGetE s.frz k.frz z.frz fun z => R (.d z) ρ2
  | _ => False) := rfl
theorem x_dput : wDput i wk w E ρ = (w E.ex ρ fun d ρ1 => (∃ s0, ρ1[i]? = some (some s0)) ∧ wk E.ex ρ1 fun k ρ2 => match ρ2[i]?, k.frz.key with
  | some (some (.odic kvs)), some κ => kvs.length < sizeLine ∧ E.nx (ρ2.set i (some (.odic (putD kvs κ d.frz))))
  | _, _ => False) := rfl
theorem x_dic0 : wDic0 Z ρ R = R (.odic []) ρ := rfl
theorem x_dic1 {k v : Int} : wDic1 k v Z ρ R = R (.odic [(.inl k, .int v)]) ρ := rfl
theorem x_mov : wMov i j E ρ = (match ρ[j]? with
  | some (some s) => E.nx ((ρ.set j none).set i (some s))
  | _ => False) := rfl
theorem x_retV : wRetV j E ρ = (match ρ[j]? with
  | some (some s) => E.rt s
  | _ => False) := rfl
theorem x_keysV {N : List D → Rho → Prop} : wKeysV i Z ρ N = (match ρ[i]? with
  | some (some (.odic kvs)) => N (kvs.map fun kv => keyD kv.1) (ρ.set i (some (.d (.dic kvs))))
  | _ => False) := rfl
theorem x_asgJ {k : Int} : wAsgJ i j k w E ρ = (w E.ex ρ fun d ρ1 => ∃ d1 d2, d.frz = .tup [d1, d2] ∧ ρ1[i]? = some (some (.d .jar)) ∧ sIx (.d .jar) (.int k) d1 fun _ => E.nx (ρ1.set j (some (.d d2)))) := rfl
theorem x_divmod {a b : Int} {R : S → Prop} : fDivmod [.int a, .int b] R = ((0 < b ∧ b < 1073741824) ∧ R (.d (.tup [.int (a / b), .int (a % b)]))) := rfl
theorem s_frz_odic {ds : List (Key × D)} : (S.odic ds).frz = .dic ds := rfl
theorem s_own_odic {ds : List (Key × D)} : (S.odic ds).isOwn = true := rfl
theorem key_int {k : Int} : (D.int k).key = some (.inl k) := rfl
theorem key_str {k : Str} : (D.str k).key = some (.inr k) := rfl
theorem dget_int {kvs : List (Key × D)} {k : Int} {N : D → Prop} : dGet (.dic kvs) (.int k) N = ∃ v, valD kvs (.inl k) = some v ∧ N v := rfl
theorem dgetE_int {kvs : List (Key × D)} {k : Int} {z : D} {N : D → Prop} : dGetE (.dic kvs) (.int k) z N = N ((valD kvs (.inl k)).getD z) := rfl
theorem tup2 {a b c d : D} : (D.tup [a, b] = D.tup [c, d]) = (a = c ∧ b = d) := by simp
/-- one turn of the outer for -/
def lc2Step (f : TgF) (t : WT) (wi1 : WI) (f1 : TgF) (t1 : WT) (e : WE) (vs1 : List Nat) (ρ : Rho) (d : D) (acc : List D) (K : List D → Prop) : Prop :=
  f d fun l => t noZ (storesR ρ l) fun b ρ3 => ρ3 = storesR ρ l ∧ if b = true then
      wi1 noZ (storesR ρ l) fun ds1 ρ4 => ρ4 = storesR ρ l ∧ wLcL f1 t1 e (wipeR (storesR ρ l) vs1) K ds1 acc
    else K acc
theorem lc2Step_eq {f : TgF} {wi1 : WI} {f1 : TgF} {e : WE} {vs1 : List Nat} {d : D} {acc : List D} {K : List D → Prop} : lc2Step f t wi1 f1 t1 e vs1 ρ d acc K = f d fun l => t noZ (storesR ρ l) fun b ρ3 => ρ3 = storesR ρ l ∧ if b = true then
      wi1 noZ (storesR ρ l) fun ds1 ρ4 => ρ4 = storesR ρ l ∧ wLcL f1 t1 e (wipeR (storesR ρ l) vs1) K ds1 acc
    else K acc := rfl
/-- the outer for adds g d to each d -/
theorem lc2_map {f : TgF} {wi1 : WI} {f1 : TgF} {e : WE} {vs1 : List Nat} {R : List D → Prop} (g : D → List D) : ∀ {ds acc : List D}, (∀ d ∈ ds, ∀ (acc : List D) (K : List D → Prop), K (acc ++ g d) → acc.length + (g d).length ≤ sizeLine → lc2Step f t wi1 f1 t1 e vs1 ρ d acc K) → acc.length + (ds.flatMap g).length ≤ sizeLine → R (acc ++ ds.flatMap g) → wLcL2 f t wi1 f1 t1 e vs1 ρ R ds acc
  | [], acc, _, _, h => by
    have h : R acc := by simpa using h
    exact h
  | d :: ds, acc, hs, hl, h => by
    rw [List.flatMap_cons, List.length_append] at hl
    refine hs d (List.mem_cons_self ..) acc _ (lc2_map g (fun d' h' => hs d' (List.mem_cons_of_mem _ h')) (by rw [List.length_append]; omega) ?_) (by omega)
    rw [List.append_assoc, ← List.flatMap_cons]
    exact h
/-- the inner one: appended to what is there -/
theorem lc_app {f : TgF} {e : WE} {R : List D → Prop} (g : D → D) : ∀ {ds acc : List D}, (∀ d ∈ ds, ∀ (acc : List D) (K : List D → Prop), acc.length < sizeLine → K (acc ++ [g d]) → lcStep f t e ρ d acc K) → acc.length + ds.length ≤ sizeLine → R (acc ++ ds.map g) → wLcL f t e ρ R ds acc
  | [], acc, _, _, h => by
    have h : R acc := by simpa using h
    exact h
  | d :: ds, acc, hs, hl, h => by
    rw [List.length_cons] at hl
    refine hs d (List.mem_cons_self ..) acc _ (by omega) (lc_app g (fun d' h' => hs d' (List.mem_cons_of_mem _ h')) (by rw [List.length_append, List.length_singleton]; omega) ?_)
    rw [List.append_assoc]
    simpa using h
/-! ### tables -/
theorem valD_nil {k : Key} : valD [] k = none := rfl
theorem valD_put (kvs : List (Key × D)) (k j : Key) (v : D) : valD (putD kvs k v) j = if j = k then some v else valD kvs j := by
  unfold putD
  split
  · rename_i h
    induction kvs with
    | nil => simp at h
    | cons p r ih =>
      obtain ⟨a, b⟩ := p
      by_cases e : a = k
      · subst e
        by_cases q : j = a
        · subst q; simp [valD]
        · have q' : ¬ a = j := fun z => q z.symm
          simp only [List.map_cons, if_true, valD, List.find?_cons, q', decide_false, Bool.false_eq_true, if_neg q]
          clear ih h
          induction r with
          | nil => rfl
          | cons x r ih =>
            obtain ⟨c, d⟩ := x
            by_cases z : c = a
            · subst z; simpa [List.find?_cons, q'] using ih
            · by_cases y : c = j
              · subst y; simp [List.find?_cons, z]
              · simpa [List.find?_cons, z, y] using ih
      · have h' : (r.any fun kv => decide (kv.1 = k)) = true := by simpa [e] using h
        have := ih h'
        by_cases q : a = j
        · subst q
          simp [valD, e]
        · simpa [valD, List.find?_cons, e, q] using this
  · rename_i h
    induction kvs with
    | nil =>
      by_cases q : j = k
      · subst q; simp [valD]
      · have q' : ¬ k = j := fun z => q z.symm
        simp [valD, q, q']
    | cons p r ih =>
      obtain ⟨a, b⟩ := p
      have h1 : ¬ a = k := fun z => h (by simp [z])
      have h2 : ¬ (r.any fun kv => decide (kv.1 = k)) = true := fun z => h (by simp only [List.any_cons, z, Bool.or_true])
      have := ih h2
      by_cases q : a = j
      · subst q; simp [valD, h1]
      · simpa [valD, List.find?_cons, q] using this
theorem putD_len (kvs : List (Key × D)) (k : Key) (v : D) : (putD kvs k v).length ≤ kvs.length + 1 := by
  unfold putD
  split <;> simp
theorem asgJ_tup {a b : D} {P : D → D → Prop} : (∃ d1 d2, D.tup [a, b] = .tup [d1, d2] ∧ P d1 d2) = P a b := by
  refine propext ⟨fun ⟨d1, d2, e, h⟩ => ?_, fun h => ⟨a, b, rfl, h⟩⟩
  cases e
  exact h
theorem x_rev {ds : List D} {R : S → Prop} : fRev (.lst ds) R = R (.own ds.reverse) := rfl
end DL

set_option maxHeartbeats 4000000
namespace Law
open PySem PySem.Spec L2 DL
local macro_rules | `(tactic| walk_at "dl") => `(tactic| simp only [rho0, List.replicate_succ, List.replicate_zero, Nat.reduceAdd, Nat.reduceSub, Nat.reduceLeDiff, List.length_nil, List.length_cons, List.map_cons, List.map_nil, List.cons_append, List.nil_append, List.getElem?_cons_zero, List.getElem?_cons_succ, List.set_cons_zero, List.set_cons_succ,
  Option.some.injEq, S.own.injEq, exists_eq_left', exists_eq_left, exists_eq', exists_eq, exists_const, if_true, if_false, ite_true, ite_false, Bool.false_eq_true, reduceIte, true_and, and_true, decide_eq_true_eq, Bool.not_true, Bool.not_false, Bool.not_eq_true', beq_iff_eq, bne_iff_ne, beq_eq_false_iff_ne, decide_eq_false_iff_not, ne_eq, ite_not, not_true_eq_false, not_false_eq_true, Int.zero_add, List.length_map, List.zip_cons_cons, List.zip_nil_right, List.zip_nil_left, List.mem_cons, List.not_mem_nil, or_false, forall_eq_or_imp, forall_eq, permL, List.getD_cons_zero, List.getD_cons_succ, sl_1, sl_2, sl_3, sl_4, sl_5, sl_6, sl_7, sl_8, sl_0, lt_01, lt_02, lt_12, lt_03, lt_13, lt_23,
  ↓x_seq, ↓x_next, ↓x_brk, ↓x_cnt, ↓x_drop, ↓x_ret, ↓x_retN, ↓x_if, ↓x_set, ↓x_par, ↓x_par3, ↓x_asgN, ↓x_for, ↓x_var, ↓x_c, ↓x_bin, ↓x_un, ↓x_b, ↓x_and, ↓x_or, ↓x_not, ↓x_andV, ↓x_orV, ↓x_notV, ↓x_ifE, ↓x_nil, ↓x_cons, ↓x_tup, ↓x_lst, ↓x_callB, ↓x_call, ↓x_callK, ↓x_ixV, ↓x_lenV, ↓x_opV, ↓x_opW, ↓x_app, ↓x_ext, ↓x_setIx, ↓x_items, ↓x_rng, ↓x_yes, ↓x_lc, ↓x_sl, ↓x_nop, ↓x_part, ↓x_chain, ↓x_never, ↓x_is, ↓x_isn,
  s_frz_d, s_frz_own, s_own_d, s_own_own, s_isB, s_i2, s_sub, s_addI, s_addT, s_addL, s_mulI, s_divI, s_modI, s_powI, s_neg, s_eqI, s_neI, s_int1, s_abs, s_max2, s_min2, s_lenT, s_lenL, s_lenR, s_tupL, s_tupT, s_lstT, s_lstL, i_t, i_l, i_r, f_name, f_tup, st_nil, st_cons, wi_nil, wi_cons, isN_non, isN_tup, isN_int, isN_lst, isN_str, lcStep_eq, g_1, g_2, g_3, j_ix0, j_ix1, j_ix2, j_s0, j_s1, j_s2, s_slT, s_slL, s_slR, s_eqS, s_neS, ↓x_frz, ↓x_frzR, ↓x_lc2, ↓x_dget, ↓x_dget2, ↓x_dput, ↓x_dic0, ↓x_dic1, ↓x_mov, ↓x_retV, ↓x_keysV, ↓x_asgJ, asgJ_tup, x_divmod, s_frz_odic, s_own_odic, S.odic.injEq, key_int, key_str, dget_int, dgetE_int, x_rev])
local macro_rules | `(tactic| walk_at "mo") => `(tactic| first | exact .inl (.inl ⟨by decide, by decide⟩) | exact .inl (.inr ⟨by decide, by decide⟩) | exact .inl (.inl ⟨by omega, by omega⟩) | exact .inl (.inr ⟨by omega, by omega⟩))

/-! ### divisors -/
def divs (n : Nat) : List Nat := (List.range (n + 1)).filter fun d => decide (0 < d) && n % d == 0
def smallD (r n : Nat) : List Nat := (List.range r).filter fun d => decide (0 < d) && n % d == 0
abbrev AscN (l : List Nat) : Prop := l.Pairwise (· < ·)
theorem asc_ext : ∀ {a b : List Nat}, AscN a → AscN b → (∀ x, x ∈ a ↔ x ∈ b) → a = b
  | [], [], _, _, _ => rfl
  | [], y :: b, _, _, h => absurd ((h y).mpr (by simp)) (by simp)
  | x :: a, [], _, _, h => absurd ((h x).mp (by simp)) (by simp)
  | x :: a, y :: b, ha, hb, h => by
    have ha' := List.pairwise_cons.mp ha
    have hb' := List.pairwise_cons.mp hb
    have e : x = y := by
      have h1 := (h x).mp (by simp)
      have h2 := (h y).mpr (by simp)
      rcases List.mem_cons.mp h1 with q | q
      · exact q
      · rcases List.mem_cons.mp h2 with q2 | q2
        · exact q2.symm
        · have := hb'.1 x q; have := ha'.1 y q2; omega
    subst e
    rw [asc_ext ha'.2 hb'.2 fun z => ?_]
    have := h z
    simp only [List.mem_cons] at this
    constructor
    · intro q
      rcases this.mp (.inr q) with e | e
      · have := ha'.1 z q; omega
      · exact e
    · intro q
      rcases this.mpr (.inr q) with e | e
      · have := hb'.1 z q; omega
      · exact e
theorem mem_small {r n d : Nat} : d ∈ smallD r n ↔ d < r ∧ 0 < d ∧ n % d = 0 := by
  simp [smallD]
theorem mem_divs {n d : Nat} (hn : 0 < n) : d ∈ divs n ↔ 0 < d ∧ n % d = 0 := by
  simp only [divs, List.mem_filter, List.mem_range, Bool.and_eq_true, decide_eq_true_eq, beq_iff_eq]
  refine ⟨fun h => h.2, fun h => ⟨?_, h⟩⟩
  have := Nat.le_of_dvd hn (Nat.dvd_of_mod_eq_zero h.2)
  omega
theorem range_asc (n : Nat) : AscN (List.range n) := List.pairwise_lt_range
theorem divs_asc (n : Nat) : AscN (divs n) := (range_asc _).filter _
theorem small_asc (r n : Nat) : AscN (smallD r n) := (range_asc _).filter _
theorem small_succ (r n : Nat) : smallD (r + 1) n = smallD r n ++ (if 0 < r ∧ n % r = 0 then [r] else []) := by
  unfold smallD
  rw [List.range_succ, List.filter_append]
  congr 1
  by_cases h : 0 < r ∧ n % r = 0
  · rw [if_pos h]; simp [h]
  · have h' : (decide (0 < r) && n % r == 0) = false := by simpa using h
    rw [if_neg h]
    simp [List.filter, h']
/-- what stands beyond the root -/
def largeD (r n : Nat) : List Nat := ((smallD r n).reverse.filter fun d => decide (d * d ≠ n)).map (n / ·)
theorem div_pos' {n d : Nat} (hn : 0 < n) (h : n % d = 0) : d * (n / d) = n ∧ 0 < n / d := by
  have e := Nat.mul_div_cancel' (Nat.dvd_of_mod_eq_zero h)
  refine ⟨e, Nat.pos_of_ne_zero fun z => ?_⟩
  rw [z] at e; omega
theorem divs_split {r n : Nat} (hn : 0 < n) (h1 : n < r * r) (h2 : ∀ d, d < r → d * d ≤ n) : divs n = smallD r n ++ largeD r n := by
  refine asc_ext (divs_asc n) ?_ fun x => ?_
  · rw [AscN, List.pairwise_append]
    refine ⟨small_asc r n, ?_, fun a ha b hb => ?_⟩
    · unfold largeD
      rw [List.pairwise_map]
      refine List.Pairwise.filter _ ?_
      rw [List.pairwise_reverse]
      refine List.Pairwise.imp_of_mem (fun {a b} ha hb hab => ?_) (small_asc r n)
      obtain ⟨a1, a2, a3⟩ := mem_small.mp ha
      obtain ⟨b1, b2, b3⟩ := mem_small.mp hb
      obtain ⟨ea, pa⟩ := div_pos' hn a3
      obtain ⟨eb, pb⟩ := div_pos' hn b3
      refine Nat.lt_of_not_le fun q => ?_
      have : a * (n / a) < b * (n / b) := Nat.lt_of_lt_of_le (Nat.mul_lt_mul_of_pos_right hab pa) (Nat.mul_le_mul_left b q)
      omega
    · obtain ⟨a1, a2, a3⟩ := mem_small.mp ha
      unfold largeD at hb
      obtain ⟨d, hd, rfl⟩ := List.mem_map.mp hb
      rw [List.mem_filter, List.mem_reverse] at hd
      obtain ⟨b1, b2, b3⟩ := mem_small.mp hd.1
      have hne : d * d ≠ n := by simpa using hd.2
      have hd2 := h2 d b1
      have ha2 := h2 a a1
      obtain ⟨eb, pb⟩ := div_pos' hn b3
      refine Nat.lt_of_not_le fun q => ?_
      have q1 : d * (n / d) ≤ d * a := Nat.mul_le_mul_left d q
      have q2 : a ≤ d := Nat.le_of_mul_le_mul_right (by omega : a * a ≤ d * a) a2
      have q3 : d * (n / d) ≤ d * d := Nat.mul_le_mul_left d (by omega)
      omega
  · rw [mem_divs hn, List.mem_append, mem_small]
    constructor
    · rintro ⟨x1, x2⟩
      by_cases c : x < r
      · exact .inl ⟨c, x1, x2⟩
      · refine .inr ?_
        obtain ⟨e, p⟩ := div_pos' hn x2
        have hlt : n / x < r := Nat.lt_of_not_le fun q => by
          have : r * r ≤ x * (n / x) := Nat.mul_le_mul (by omega) q
          omega
        unfold largeD
        refine List.mem_map.mpr ⟨n / x, ?_, ?_⟩
        · rw [List.mem_filter, List.mem_reverse, mem_small]
          refine ⟨⟨hlt, p, ?_⟩, ?_⟩
          · have : n = (n / x) * x := by rw [Nat.mul_comm]; exact e.symm
            rw [this]
            rw [Nat.mul_div_cancel _ x1]
            exact Nat.mul_mod_right _ _
          · have : (n / x) * (n / x) < x * (n / x) := Nat.mul_lt_mul_of_pos_right (by omega) p
            simp; omega
        · show n / (n / x) = x
          have : n = x * (n / x) := e.symm
          conv => lhs; lhs; rw [this]
          exact Nat.mul_div_cancel _ p
    · rintro (h | h)
      · exact h.2
      · unfold largeD at h
        obtain ⟨d, hd, rfl⟩ := List.mem_map.mp h
        rw [List.mem_filter, List.mem_reverse] at hd
        obtain ⟨b1, b2, b3⟩ := mem_small.mp hd.1
        obtain ⟨eb, pb⟩ := div_pos' hn b3
        refine ⟨pb, ?_⟩
        conv => lhs; lhs; rw [← eb]
        exact Nat.mul_mod_left _ _
/-- all but 1 -/
def divs1 (n : Nat) : List Nat := (divs n).filter fun d => decide (d ≠ 1)
theorem mem_divs1 {n d : Nat} (hn : 0 < n) : d ∈ divs1 n ↔ 1 < d ∧ n % d = 0 := by
  rw [divs1, List.mem_filter, mem_divs hn]
  simp
  omega
theorem divs1_asc (n : Nat) : AscN (divs1 n) := (divs_asc n).filter _
theorem divs_cons {n : Nat} (hn : 0 < n) : divs n = 1 :: divs1 n := by
  refine asc_ext (divs_asc n) ?_ fun x => ?_
  · refine List.pairwise_cons.mpr ⟨fun a ha => ((mem_divs1 hn).mp ha).1, divs1_asc n⟩
  · rw [mem_divs hn, List.mem_cons, mem_divs1 hn]
    constructor
    · intro h
      by_cases c : x = 1
      · exact .inl c
      · exact .inr ⟨by omega, h.2⟩
    · rintro (h | h)
      · subst h; exact ⟨by omega, Nat.mod_one _⟩
      · exact ⟨by omega, h.2⟩
/-! ### weighted ordered factorizations -/
def CF (l : Int) : Nat → Nat → Int
  | 0, _ => 1
  | f + 1, n => if n ≤ 1 then 1 else l * ((divs1 n).map fun d => CF l f (n / d)).sum
theorem CF_fuel (l : Int) : ∀ f g n : Nat, n < 2 ^ f → n < 2 ^ g → CF l f n = CF l g n
  | 0, 0, _, _, _ => rfl
  | 0, g + 1, n, h, _ => by rw [CF, CF, if_pos (by simpa using Nat.le_of_lt_succ (Nat.lt_succ_of_lt h))]
  | f + 1, 0, n, _, h => by rw [CF, CF, if_pos (by simpa using Nat.le_of_lt_succ (Nat.lt_succ_of_lt h))]
  | f + 1, g + 1, n, h, h' => by
    rw [CF, CF]
    by_cases c : n ≤ 1
    · rw [if_pos c, if_pos c]
    · rw [if_neg c, if_neg c]
      congr 2
      apply List.map_congr_left
      intro d hd
      have hd1 := ((mem_divs1 (by omega)).mp hd).1
      have : n / d ≤ n / 2 := Nat.div_le_div_left hd1 (by omega)
      rw [Nat.pow_succ] at h h'
      exact CF_fuel l f g (n / d) (by omega) (by omega)
def C (l : Int) (n : Nat) : Int := CF l n n
theorem C_eq (l : Int) {n f : Nat} (h : n < 2 ^ f) : C l n = CF l f n := CF_fuel l n f n Nat.lt_two_pow_self h
theorem C_one (l : Int) : C l 1 = 1 := by rw [C, CF, if_pos (Nat.le_refl _)]
theorem C_rec (l : Int) {n : Nat} (hn : 1 < n) : C l n = l * ((divs1 n).map fun d => C l (n / d)).sum := by
  cases n with
  | zero => omega
  | succ m =>
    rw [C, CF, if_neg (by omega)]
    congr 2
    apply List.map_congr_left
    intro d hd
    have hd1 := ((mem_divs1 (by omega)).mp hd).1
    have : (m + 1) / d ≤ (m + 1) / 2 := Nat.div_le_div_left hd1 (by omega)
    refine (C_eq l (Nat.lt_of_lt_of_le (?_ : (m + 1) / d < m + 1) Nat.lt_two_pow_self |> fun h => Nat.lt_of_le_of_lt ?_ Nat.lt_two_pow_self)).symm
    all_goals omega
/-- the ways to choose the first otherwise -/
def Fl (first later : Int) (n : Nat) : Int := if n = 1 then 1 else first * ((divs1 n).map fun d => C later (n / d)).sum
theorem Fl_C (l : Int) {n : Nat} (hn : 0 < n) : Fl l l n = C l n := by
  unfold Fl
  by_cases c : n = 1
  · rw [if_pos c, c, C_one]
  · rw [if_neg c, C_rec l (by omega)]
theorem divs1_of {n w : Nat} (hn : 0 < n) (hw : 0 < w) (h : n % w = 0) : (divs1 n).filter (fun d => decide (w % d = 0)) = divs1 w := by
  refine asc_ext ((divs1_asc n).filter _) (divs1_asc w) fun x => ?_
  rw [List.mem_filter, mem_divs1 hn, mem_divs1 hw]
  simp only [decide_eq_true_eq]
  refine ⟨fun q => ⟨q.1.1, q.2⟩, fun q => ⟨⟨q.1, ?_⟩, q.2⟩⟩
  exact Nat.mod_eq_zero_of_dvd (Nat.dvd_trans (Nat.dvd_of_mod_eq_zero q.2) (Nat.dvd_of_mod_eq_zero h))
abbrev nL (ns : List Nat) : List D := ns.map fun (n : Nat) => D.int n
theorem lc_nat {f : TgF} {tt : WT} {e : WE} {ρ : Rho} {R : List D → Prop} (p : Nat → Bool) (g : Nat → Int) {xs : List Nat} (hs : ∀ n ∈ xs, ∀ (acc : List D) (K : List D → Prop), acc.length < sizeLine → K (acc ++ if p n = true then [.int (g n)] else []) → lcStep f tt e ρ (.int (n : Nat)) acc K) (hl : xs.length ≤ sizeLine) (hR : R (((xs.filter p).map g).map .int)) : wLcL f tt e ρ R (nL xs) [] := by
  refine lc_filterMap (fun d => match d with | .int i => if p i.toNat = true then some (.int (g i.toNat)) else none | _ => none) (fun d hd acc K ha k => ?_) (by simpa using hl) ?_
  · obtain ⟨n, hn, rfl⟩ := List.mem_map.mp hd
    refine hs n hn acc K ha ?_
    simp only [Int.toNat_natCast] at k
    split at k <;> rename_i c <;> simp only [c, if_true, Bool.false_eq_true, if_false] <;> exact k
  · have : (nL xs).filterMap (fun d => match d with | .int i => if p i.toNat = true then some (D.int (g i.toNat)) else none | _ => none) = ((xs.filter p).map g).map .int := by
      clear hs hl hR
      induction xs with
      | nil => rfl
      | cons x xs ih =>
        simp only [nL, List.map_cons, List.filterMap_cons, Int.toNat_natCast] at ih ⊢
        by_cases c : p x = true
        · simp only [c, if_true, List.filter_cons_of_pos, List.map_cons]
          rw [ih]
        · simp only [c, if_false, Bool.false_eq_true, List.filter_cons_of_neg, not_false_eq_true]
          exact ih
    rw [this]
    exact hR
theorem natdiv {n d : Nat} : (n : Int).fdiv (d : Int) = ((n / d : Nat) : Int) := by
  rw [Int.fdiv_eq_ediv_of_nonneg _ (by omega : (0 : Int) ≤ d)]; exact (Int.natCast_ediv n d).symm
theorem natmod {n d : Nat} : (n : Int).fmod (d : Int) = ((n % d : Nat) : Int) := by
  rw [Int.fmod_eq_emod_of_nonneg _ (by omega : (0 : Int) ≤ d)]; exact (Int.natCast_emod n d).symm
theorem small_len (r n : Nat) : (smallD r n).length ≤ r := by
  have := List.length_filter_le (fun d => decide (0 < d) && n % d == 0) (List.range r)
  unfold smallD
  simpa using this
def wf_is_integer : WF := fun _ ds R => ∃ v : Int, ds = [.int v] ∧ R (.d (.bl true))
def wf_is_within : WF := fun _ ds R => ∃ v a b : Int, ds = [.int v, .int a, .int b] ∧ (a ≤ v ∧ v ≤ b) ∧ R (.d (.bl true))
def wf_check_number : WF := fun _ ds R => ∃ v a b : Int, ds = [.int v, .int a, .int b] ∧ (a ≤ v ∧ v ≤ b) ∧ R (.d .non)
def wf_divisors_of : WF := fun _ ds R => ∃ n : Nat, ds = [.int n] ∧ (0 < n ∧ n ≤ 100000) ∧ R (.own (nL (divs n)))
def wf_counted : WF := fun _ ds R => ∃ (n : Nat) (a b : Int), ds = [.int n, .int a, .int b] ∧ (0 < n ∧ n ≤ 100000) ∧ (0 ≤ a ∧ a ≤ 10 ∧ 0 ≤ b ∧ b ≤ 10) ∧ R (.d (.int (Fl a b n)))

/-! ### the purse -/
def wf_law_cell : WF := fun _ ds R => ∃ (ns : List Int) (k : Int), ds = [.rls (ns.map .int), .int k] ∧ (0 ≤ k ∧ k < 1000) ∧ ∀ v : Int, R (.d (.int v))
def wf0_law_purse : WF := fun _ ds R => ∃ v : Int, ds = [.int v] ∧ ∀ x y : Int, (-(2 ^ 40) < y ∧ y < 2 ^ 40) → R (.own [.int x, .int y, .int 0])
def wf_law_purse : WF := fun _ ds R => ∃ v : Int, ds = [.int v] ∧ R (.d .jar)
def wf_law_roll : WF := fun _ ds R => ∃ n : Int, ds = [.jar, .int n] ∧ (0 < n ∧ n < 1073741824) ∧ ∀ r, 0 ≤ r → r < n → R (.d (.int r))
def wf_law_pick : WF := fun _ ds R => ∃ es : List D, ds = [.jar, .lst es] ∧ (0 < es.length ∧ es.length < 1000000) ∧ ∀ d ∈ es, R (.d d)

/-! ### sums over divisors -/
theorem asc_extI : ∀ {a b : List Int}, a.Pairwise (· < ·) → b.Pairwise (· < ·) → (∀ x, x ∈ a ↔ x ∈ b) → a = b
  | [], [], _, _, _ => rfl
  | [], y :: b, _, _, h => absurd ((h y).mpr (by simp)) (by simp)
  | x :: a, [], _, _, h => absurd ((h x).mp (by simp)) (by simp)
  | x :: a, y :: b, ha, hb, h => by
    have ha' := List.pairwise_cons.mp ha
    have hb' := List.pairwise_cons.mp hb
    have e : x = y := by
      rcases List.mem_cons.mp ((h x).mp (by simp)) with q | q
      · exact q
      · rcases List.mem_cons.mp ((h y).mpr (by simp)) with q2 | q2
        · exact q2.symm
        · have := hb'.1 x q; have := ha'.1 y q2; omega
    subst e
    rw [asc_extI ha'.2 hb'.2 fun z => ?_]
    have := h z
    simp only [List.mem_cons] at this
    constructor
    · intro q
      rcases this.mp (.inr q) with e | e
      · have := ha'.1 z q; omega
      · exact e
    · intro q
      rcases this.mpr (.inr q) with e | e
      · have := hb'.1 z q; omega
      · exact e
def sumF (f : Nat → Int) (l : List Nat) : Int := (l.map f).sum
theorem sumF_append (f : Nat → Int) (a b : List Nat) : sumF f (a ++ b) = sumF f a + sumF f b := by simp [sumF]
theorem sumF_cons (f : Nat → Int) (a : Nat) (b : List Nat) : sumF f (a :: b) = f a + sumF f b := by simp [sumF]
theorem sumF_reverse (f : Nat → Int) (l : List Nat) : sumF f l.reverse = sumF f l := by
  induction l with
  | nil => rfl
  | cons a l ih => rw [List.reverse_cons, sumF_append, ih, sumF_cons, sumF_cons]; simp [sumF]; omega
theorem sumF_congr {f g : Nat → Int} {l : List Nat} (h : ∀ x ∈ l, f x = g x) : sumF f l = sumF g l := by
  unfold sumF
  rw [List.map_congr_left h]
theorem sumF_filter (f : Nat → Int) (p : Nat → Bool) (l : List Nat) : sumF f (l.filter p) = sumF (fun x => if p x = true then f x else 0) l := by
  induction l with
  | nil => rfl
  | cons a l ih =>
    rw [sumF_cons, List.filter_cons]
    by_cases c : p a = true
    · rw [if_pos c, if_pos c, sumF_cons, ih]
    · rw [if_neg c, if_neg c, ih]; omega
theorem sumF_map (f : Nat → Int) (g : Nat → Nat) (l : List Nat) : sumF f (l.map g) = sumF (fun x => f (g x)) l := by
  simp [sumF, Function.comp_def]
/-- what the two by two list holds -/
def pairsD (n : Nat) (l : List Nat) : List Nat := l.flatMap fun d => if d * d = n then [d] else [d, n / d]
theorem sumF_pairs (f : Nat → Int) (n : Nat) (l : List Nat) : sumF f (pairsD n l) = sumF f l + sumF (fun d => if d * d = n then 0 else f (n / d)) l := by
  induction l with
  | nil => rfl
  | cons a l ih =>
    rw [pairsD, List.flatMap_cons, sumF_append]
    rw [pairsD] at ih
    rw [ih, sumF_cons, sumF_cons]
    by_cases c : a * a = n
    · rw [if_pos c, if_pos c]; simp [sumF]; omega
    · rw [if_neg c, if_neg c]; simp [sumF]; omega
theorem sumF_large (f : Nat → Int) (r n : Nat) : sumF f (largeD r n) = sumF (fun d => if d * d = n then 0 else f (n / d)) (smallD r n) := by
  rw [largeD, sumF_map, sumF_filter, sumF_reverse]
  refine sumF_congr fun x _ => ?_
  by_cases c : x * x = n <;> simp [c]
theorem sumF_divs_pairs (f : Nat → Int) {r n : Nat} (hn : 0 < n) (h1 : n < r * r) (h2 : ∀ d, d < r → d * d ≤ n) : sumF f (pairsD n (smallD r n)) = sumF f (divs n) := by
  rw [sumF_pairs, divs_split hn h1 h2, sumF_append, sumF_large]
theorem divs_flip {n : Nat} (hn : 0 < n) : (divs n).map (n / ·) = (divs n).reverse := by
  have flip : ∀ d, d ∈ divs n → n / d ∈ divs n ∧ n / (n / d) = d := fun d hd => by
    obtain ⟨d1, d2⟩ := (mem_divs hn).mp hd
    obtain ⟨e, p⟩ := div_pos' hn d2
    refine ⟨(mem_divs hn).mpr ⟨p, ?_⟩, ?_⟩
    · conv => lhs; lhs; rw [← e]
      exact Nat.mul_mod_left _ _
    · conv => lhs; lhs; rw [← e]
      exact Nat.mul_div_cancel _ p
  have : ((divs n).map (n / ·)).reverse = divs n := by
    refine asc_ext ?_ (divs_asc n) fun x => ?_
    · rw [AscN, List.pairwise_reverse, List.pairwise_map]
      refine List.Pairwise.imp_of_mem (fun {a b} ha hb hab => ?_) (divs_asc n)
      obtain ⟨a1, a2⟩ := (mem_divs hn).mp ha
      obtain ⟨b1, b2⟩ := (mem_divs hn).mp hb
      obtain ⟨ea, pa⟩ := div_pos' hn a2
      obtain ⟨eb, pb⟩ := div_pos' hn b2
      refine Nat.lt_of_not_le fun q => ?_
      have : a * (n / a) < b * (n / b) := Nat.lt_of_lt_of_le (Nat.mul_lt_mul_of_pos_right hab pa) (Nat.mul_le_mul_left b q)
      omega
    · rw [List.mem_reverse, List.mem_map]
      constructor
      · rintro ⟨d, hd, rfl⟩
        exact (flip d hd).1
      · intro hx
        exact ⟨n / x, (flip x hx).1, (flip x hx).2⟩
  rw [← List.reverse_reverse (List.map _ _), this]
/-- the proper divisors' counts -/
theorem C_below {n : Nat} (hn : 1 < n) : sumF (C 1) ((divs n).filter fun d => decide (d ≠ n)) = C 1 n := by
  have hn0 : 0 < n := by omega
  rw [C_rec 1 hn, Int.one_mul]
  show _ = sumF (fun d => C 1 (n / d)) (divs1 n)
  rw [divs1, sumF_filter, sumF_filter, ← sumF_reverse, ← divs_flip hn0, sumF_map]
  refine sumF_congr fun x hx => ?_
  obtain ⟨x1, x2⟩ := (mem_divs hn0).mp hx
  obtain ⟨e, p⟩ := div_pos' hn0 x2
  by_cases c : x = 1
  · subst c; simp
  · have : n / x ≠ n := by
      have := Nat.div_lt_self hn0 (by omega : 1 < x)
      omega
    simp [c, this]
theorem pairs_filter (f : Nat → Int) {r n : Nat} (hn : 0 < n) (h1 : n < r * r) (h2 : ∀ d, d < r → d * d ≤ n) : sumF f ((pairsD n (smallD r n)).filter fun d => decide (d ≠ n)) = sumF f ((divs n).filter fun d => decide (d ≠ n)) := by
  rw [sumF_filter, sumF_filter, sumF_divs_pairs _ hn h1 h2]
/-! ### powers of a prime -/
/-- has no divisors but 1 and itself, by trial -/
def primeB (p r : Nat) : Bool := decide (1 < p) && decide (p < r * r) && (List.range r).all fun d => decide (d < 2) || p % d != 0
theorem prime_of {p r : Nat} (h : primeB p r = true) : 1 < p ∧ ∀ d, p % d = 0 → d = 1 ∨ d = p := by
  simp only [primeB, Bool.and_eq_true, decide_eq_true_eq, List.all_eq_true, List.mem_range, Bool.or_eq_true, bne_iff_ne, ne_eq] at h
  obtain ⟨⟨h1, h2⟩, h3⟩ := h
  refine ⟨h1, fun d hd => ?_⟩
  obtain ⟨e, q⟩ := div_pos' (by omega : 0 < p) hd
  by_cases c : d < r
  · rcases h3 d c with z | z
    · by_cases z0 : d = 0
      · subst z0; omega
      · left; omega
    · exact absurd hd z
  · have hlt : p / d < r := Nat.lt_of_not_le fun w => by
      have : r * r ≤ d * (p / d) := Nat.mul_le_mul (by omega) w
      omega
    rcases h3 (p / d) hlt with z | z
    · right
      have : p / d = 1 := by omega
      rw [this] at e; omega
    · refine absurd ?_ z
      conv => lhs; lhs; rw [← e]
      exact Nat.mul_mod_left _ _
theorem dvd_pow_prime {p : Nat} (h1 : 1 < p) (h : ∀ d, p % d = 0 → d = 1 ∨ d = p) : ∀ (k d : Nat), p ^ k % d = 0 → ∃ j, j ≤ k ∧ d = p ^ j
  | 0, d, hd => ⟨0, Nat.le_refl _, by
    have := Nat.dvd_of_mod_eq_zero hd
    simpa using this⟩
  | k + 1, d, hd => by
    have hdv := Nat.dvd_of_mod_eq_zero hd
    by_cases c : d % p = 0
    · obtain ⟨e, rfl⟩ := Nat.dvd_of_mod_eq_zero c
      rw [Nat.pow_succ, Nat.mul_comm (p ^ k) p] at hdv
      have := Nat.dvd_of_mul_dvd_mul_left (by omega : 0 < p) hdv
      obtain ⟨j, hj, rfl⟩ := dvd_pow_prime h1 h k e (Nat.mod_eq_zero_of_dvd this)
      exact ⟨j + 1, by omega, by rw [Nat.pow_succ, Nat.mul_comm]⟩
    · have hg : Nat.gcd d p = 1 := by
        rcases h (Nat.gcd d p) (Nat.mod_eq_zero_of_dvd (Nat.gcd_dvd_right d p)) with z | z
        · exact z
        · exact absurd (Nat.mod_eq_zero_of_dvd (by rw [← z]; exact Nat.gcd_dvd_left d p)) c
      have : d ∣ p ^ k := Nat.Coprime.dvd_of_dvd_mul_right hg (by rw [← Nat.pow_succ]; exact hdv)
      obtain ⟨j, hj, e⟩ := dvd_pow_prime h1 h k d (Nat.mod_eq_zero_of_dvd this)
      exact ⟨j, by omega, e⟩
theorem divs_pow {p : Nat} (h1 : 1 < p) (h : ∀ d, p % d = 0 → d = 1 ∨ d = p) (k : Nat) : divs (p ^ k) = (List.range (k + 1)).map (p ^ ·) := by
  have hp : 0 < p ^ k := Nat.pow_pos (by omega)
  refine asc_ext (divs_asc _) ?_ fun x => ?_
  · rw [AscN, List.pairwise_map]
    exact List.Pairwise.imp (fun hij => Nat.pow_lt_pow_right h1 hij) (range_asc _)
  · rw [mem_divs hp, List.mem_map]
    constructor
    · rintro ⟨-, x2⟩
      obtain ⟨j, hj, rfl⟩ := dvd_pow_prime h1 h k x x2
      exact ⟨j, List.mem_range.mpr (by omega), rfl⟩
    · rintro ⟨j, hj, rfl⟩
      have := List.mem_range.mp hj
      exact ⟨Nat.pow_pos (by omega), Nat.mod_eq_zero_of_dvd (Nat.pow_dvd_pow p (by omega))⟩
theorem C_pow {p : Nat} (h1 : 1 < p) (h : ∀ d, p % d = 0 → d = 1 ∨ d = p) : ∀ k : Nat, C 1 (p ^ (k + 1)) = 2 ^ k ∧ sumF (fun j => C 1 (p ^ j)) (List.range (k + 1)) = 2 ^ k := by
  have rec1 : ∀ k, C 1 (p ^ (k + 1)) = sumF (fun j => C 1 (p ^ j)) (List.range (k + 1)) := fun k => by
    have hp : 1 < p ^ (k + 1) := Nat.one_lt_pow (by omega) h1
    rw [← C_below hp, divs_pow h1 h, List.range_succ, List.map_append, List.filter_append, sumF_append]
    have e1 : ((List.range (k + 1)).map (p ^ ·)).filter (fun d => decide (d ≠ p ^ (k + 1))) = (List.range (k + 1)).map (p ^ ·) := by
      rw [List.filter_eq_self]
      intro a ha
      obtain ⟨j, hj, rfl⟩ := List.mem_map.mp ha
      have := Nat.pow_lt_pow_right h1 (List.mem_range.mp hj)
      simp; omega
    rw [e1, sumF_map]
    simp [sumF]
  intro k
  induction k with
  | zero =>
    have := rec1 0
    rw [this]
    simp [sumF, C_one]
  | succ k ih =>
    have e : sumF (fun j => C 1 (p ^ j)) (List.range (k + 1 + 1)) = 2 ^ (k + 1) := by
      rw [List.range_succ, sumF_append, ih.2, sumF_cons, ih.1, Int.pow_succ]
      simp [sumF]; omega
    exact ⟨by rw [rec1, e], e⟩

/-! ### ordered factorizations listed, each with its weight -/
/-- a row and what is left -/
abbrev Itm := List Int × Nat
def itD (p : Itm) : D := .tup [.tup (p.1.map .int), .int p.2]
def sumI (f : Itm → Int) (l : List Itm) : Int := (l.map f).sum
theorem sumI_append (f : Itm → Int) (a b : List Itm) : sumI f (a ++ b) = sumI f a + sumI f b := by simp [sumI]
theorem sumI_cons (f : Itm → Int) (a : Itm) (b : List Itm) : sumI f (a :: b) = f a + sumI f b := by simp [sumI]
theorem sq_240 : ∀ n : Nat, 0 < n → n ≤ 240 → 1 + sumF (fun d => ((n / d : Nat) : Int) * (n / d : Nat)) (divs1 n) ≤ (n : Int) * n := by
  have h : ((List.range 241).all fun n => decide (n = 0) || decide (1 + sumF (fun d => ((n / d : Nat) : Int) * (n / d : Nat)) (divs1 n) ≤ (n : Int) * n)) = true := by decide +kernel
  intro n h0 hn
  have := List.all_eq_true.mp h n (List.mem_range.mpr (by omega))
  simp only [Bool.or_eq_true, decide_eq_true_eq] at this
  rcases this with q | q
  · omega
  · exact q
theorem range_divs1 {n : Nat} (hn : 0 < n) : ((List.range (n - 1)).map (· + 2)).filter (fun d => decide (n % d = 0)) = divs1 n := by
  refine asc_ext (List.Pairwise.filter _ ?_) (divs1_asc n) fun x => ?_
  · rw [List.pairwise_map]
    exact List.Pairwise.imp (fun h => by omega) (range_asc _)
  · rw [List.mem_filter, List.mem_map, mem_divs1 hn]
    constructor
    · rintro ⟨⟨i, hi, rfl⟩, h⟩
      exact ⟨by omega, by simpa using h⟩
    · rintro ⟨h1, h2⟩
      have := Nat.le_of_dvd hn (Nat.dvd_of_mod_eq_zero h2)
      exact ⟨⟨x - 2, List.mem_range.mpr (by omega), by omega⟩, by simpa using h2⟩
theorem C_pos (l : Int) (hl : 0 ≤ l) : ∀ f n : Nat, 0 ≤ CF l f n
  | 0, _ => by simp [CF]
  | f + 1, n => by
    rw [CF]
    split
    · decide
    · refine Int.mul_nonneg hl ?_
      have : ∀ L : List Nat, 0 ≤ (L.map fun d => CF l f (n / d)).sum := fun L => by
        induction L with
        | nil => simp
        | cons a L ih => rw [List.map_cons, List.sum_cons]; have := C_pos l hl f (n / a); omega
      exact this _
theorem sumI_C0 (L : List Itm) : 0 ≤ sumI (fun p => (p.2 : Int) * p.2) L := by
  induction L with
  | nil => decide
  | cons a L ih => rw [sumI_cons]; have : 0 ≤ (a.2 : Int) * a.2 := Int.mul_nonneg (by omega) (by omega); omega
def kid (row : List Int) (left d : Nat) : Itm := (row ++ [(d : Int)], left / d)
theorem sumI_len : ∀ L : List Itm, (∀ p ∈ L, 0 < p.2) → (L.length : Int) ≤ sumI (fun p => (p.2 : Int) * p.2) L
  | [], _ => by simp [sumI]
  | a :: L, h => by
    rw [sumI_cons, List.length_cons]
    have h1 := sumI_len L fun p hp => h p (List.mem_cons_of_mem _ hp)
    have h2 := h a (by simp)
    have : (1 : Int) * 1 ≤ a.2 * a.2 := Int.mul_le_mul (by omega) (by omega) (by omega) (by omega)
    push_cast
    omega
def Wt (m l : Int) (row : List Int) : Int := if row = [] then 1 else m * l ^ (row.length - 1)
def Pt (m l : Int) (p : Itm) : Int := if p.1 = [] then Fl m l p.2 else m * l ^ (p.1.length - 1) * C l p.2
def sumW (f : List Int → Int) (l : List (List Int)) : Int := (l.map f).sum
theorem sumW_append (f : List Int → Int) (a b : List (List Int)) : sumW f (a ++ b) = sumW f a + sumW f b := by simp [sumW]
theorem sumF_mul (c : Int) (f : Nat → Int) (l : List Nat) : sumF (fun d => c * f d) l = c * sumF f l := by
  induction l with
  | nil => simp [sumF]
  | cons a l ih => rw [sumF_cons, sumF_cons, ih, Int.mul_add]
theorem Pt_one (m l : Int) (row : List Int) : Pt m l (row, 1) = Wt m l row := by
  unfold Pt Wt
  by_cases c : row = []
  · simp [c, Fl]
  · simp [c, C_one]
theorem Pt_rec (m l : Int) (row : List Int) {left : Nat} (h : 1 < left) : Pt m l (row, left) = sumF (fun d => Pt m l (kid row left d)) (divs1 left) := by
  have e : ∀ d, Pt m l (kid row left d) = m * l ^ row.length * C l (left / d) := fun d => by
    unfold Pt kid
    simp
  rw [sumF_congr (g := fun d => m * l ^ row.length * C l (left / d)) fun d _ => e d, sumF_mul]
  unfold Pt
  by_cases c : row = []
  · subst c
    have : left ≠ 1 := by omega
    simp [Fl, this, sumF]
  · simp only [c, if_false]
    rw [C_rec l h]
    obtain ⟨k, hk⟩ : ∃ k, row.length = k + 1 := ⟨row.length - 1, by have := List.length_pos_iff.mpr c; omega⟩
    rw [hk, Nat.add_sub_cancel, Int.pow_succ]
    unfold sumF
    simp only [Int.mul_assoc]
def wf_law_factors : WF := fun _ ds R => ∃ n : Nat, ds = [.int n] ∧ (0 < n ∧ n ≤ 240) ∧ ∀ rows : List (List Int), rows.length ≤ 100000 → (∀ r ∈ rows, r.length ≤ 240) → (∀ m l : Int, sumW (Wt m l) rows = Fl m l n) → R (.d (.lst (rows.map tI)))

theorem C0 : ∀ f n : Nat, n < 2 ^ f → CF 0 f n = if n ≤ 1 then 1 else 0
  | 0, n, h => by rw [CF, if_pos (by simp at h; omega)]
  | f + 1, n, h => by
    rw [CF]
    split
    · rfl
    · rw [Int.zero_mul]
theorem sumF_proper (f : Nat → Int) {n : Nat} (hn : 1 < n) : sumF (fun d => f (n / d)) (divs1 n) = sumF f ((divs n).filter fun d => decide (d ≠ n)) := by
  have hn0 : 0 < n := by omega
  rw [divs1, sumF_filter, sumF_filter, ← sumF_reverse (fun x => if decide (x ≠ n) = true then f x else 0), ← divs_flip hn0, sumF_map]
  refine sumF_congr fun x hx => ?_
  obtain ⟨x1, x2⟩ := (mem_divs hn0).mp hx
  by_cases c : x = 1
  · subst c; simp
  · have : n / x ≠ n := by
      have := Nat.div_lt_self hn0 (by omega : 1 < x)
      omega
    simp [c, this]
theorem sumF_zero {f : Nat → Int} {l : List Nat} (h : ∀ x ∈ l, f x = 0) : sumF f l = 0 := by
  induction l with
  | nil => rfl
  | cons a l ih => rw [sumF_cons, h a (by simp), ih fun x hx => h x (List.mem_cons_of_mem _ hx)]; rfl
theorem Fl_1 {n : Nat} (hn : 0 < n) : Fl 1 0 n = 1 := by
  unfold Fl
  by_cases c : n = 1
  · rw [if_pos c]
  · rw [if_neg c, Int.one_mul]
    show sumF (fun d => C 0 (n / d)) (divs1 n) = 1
    rw [sumF_proper (C 0) (by omega), divs_cons hn, List.filter_cons, if_pos (decide_eq_true (by omega : (1 : Nat) ≠ n)), sumF_cons, C_one, sumF_zero]
    · rfl
    · intro x hx
      have := ((mem_divs1 hn).mp (List.mem_filter.mp hx).1).1
      rw [C, C0 _ _ Nat.lt_two_pow_self, if_neg (by omega)]
theorem Fl_2 {n : Nat} (hn : 1 < n) : Fl 2 1 n = 2 * C 1 n := by
  unfold Fl
  rw [if_neg (by omega), C_rec 1 hn, Int.one_mul]
theorem Fl_C' (m l : Int) {n : Nat} (hn : 1 < n) : l * Fl m l n = m * C l n := by
  unfold Fl
  rw [if_neg (by omega), C_rec l hn]
  generalize ((divs1 n).map fun d => C l (n / d)).sum = s
  rw [← Int.mul_assoc, ← Int.mul_assoc, Int.mul_comm l m]
theorem Fl_prime {p : Nat} (m l : Int) (h1 : 1 < p) (h : ∀ d, p % d = 0 → d = 1 ∨ d = p) : Fl m l p = m := by
  unfold Fl
  rw [if_neg (by omega)]
  show m * sumF (fun d => C l (p / d)) (divs1 p) = m
  rw [sumF_proper (C l) h1]
  have e := divs_pow h1 h 1
  rw [Nat.pow_one] at e
  rw [e]
  have : ((List.range (1 + 1)).map (p ^ ·)).filter (fun d => decide (d ≠ p)) = [1] := by
    have : (List.range (1 + 1)) = [0, 1] := by decide
    rw [this]
    simp only [List.map_cons, List.map_nil, Nat.pow_zero, Nat.pow_one]
    rw [List.filter_cons, if_pos (decide_eq_true (by omega : (1 : Nat) ≠ p)), List.filter_cons, if_neg (by simp), List.filter_nil]
  rw [this, sumF_cons, C_one]
  simp [sumF]
def FlF (m l : Int) (f n : Nat) : Int := if n = 1 then 1 else m * ((divs1 n).map fun d => CF l f (n / d)).sum
theorem Fl_F (m l : Int) {f n : Nat} (h0 : 0 < n) (h : n < 2 ^ f) : Fl m l n = FlF m l f n := by
  unfold Fl FlF
  split
  · rfl
  · congr 2
    apply List.map_congr_left
    intro d hd
    exact C_eq l (Nat.lt_of_le_of_lt (Nat.div_le_self _ _) h)
theorem Fl_small : ∀ n m : Nat, 0 < n → n ≤ 96 → 0 < m → m ≤ 6 → (Fl (m : Int) ((m : Int) - 1) n).natAbs < 2 ^ 100 := by
  have h : ((List.range 97).all fun n => (List.range 7).all fun m => decide ((FlF (m : Int) ((m : Int) - 1) 7 n).natAbs < 2 ^ 100)) = true := by decide +kernel
  intro n m h0 hn hm0 hm
  rw [Fl_F _ _ h0 (by omega : n < 2 ^ 7)]
  have := List.all_eq_true.mp h n (List.mem_range.mpr (by omega))
  have := List.all_eq_true.mp this m (List.mem_range.mpr (by omega))
  exact of_decide_eq_true this
def wf_ladders : WF := fun _ ds R => ∃ n : Nat, ds = [.int n] ∧ (0 < n ∧ n ≤ 100000) ∧ R (.d (.int (C 1 n)))
def wf_fillings : WF := fun _ ds R => ∃ (n : Nat) (m : Int), ds = [.int n, .int m] ∧ (0 < n ∧ n ≤ 100000) ∧ (1 ≤ m ∧ m ≤ 6) ∧ R (.d (.int (Fl m (m - 1) n)))
def wf_law_sum : WF := fun _ ds R => ∃ ns : List Int, ds = [.lst (ns.map .int)] ∧ R (.d (.int ns.sum))
def wf_law_case_right : WF := fun _ ds R => ds = [.jar] ∧ R (.d (.bl true))
def wf_law : WF := fun _ ds R => ∃ ns : List Int, ds = [.rls (ns.map .int)] ∧ R (.d (.bl true))

/-- is_integer(value); slots: 0 value -/
def b_is_integer : WS := (wRet (wAndV (wCallB fIsi (wCons (wVar 0) (wCons (wC (.v (.ty "int"))) wNil))) (wNotV (wCallB fIsi (wCons (wVar 0) (wCons (wC (.v (.ty "bool"))) wNil))))))
/-- is_within(value, least, most); slots: 0 value, 1 least, 2 most -/
def b_is_within : WS := (wRet (wAndV (wCall 1 wf_is_integer (wCons (wVar 0) wNil)) (wChain fLe fLe (wVar 1) (wVar 0) (wVar 2))))
/-- check_number(value, least, most); slots: 0 value, 1 least, 2 most -/
def b_check_number : WS := (wIf (wNot (wB (wCall 3 wf_is_within (wCons (wVar 0) (wCons (wVar 1) (wCons (wVar 2) wNil)))))) wNever wNext)
/-- divisors_of(size); slots: 0 size, 1 small, 2 number, 3 found -/
def b_divisors_of_1 : WS := (wSet 2 (wBin fAdd (wVar 2) (wC (.int 1))))
def b_divisors_of : WS := (wSeq (wSet 1 (wLst wNil))
  (wSeq (wSet 2 (wC (.int 1)))
  (wSeq (wWhile (wB (wBin fLe (wBin fMul (wVar 2) (wVar 2)) (wVar 0))) (wSeq (wIf (wB (wBin fEq (wBin fMod (wVar 0) (wVar 2)) (wC (.int 0)))) (wApp 1 (wVar 2)) wNext)
  b_divisors_of_1))
  (wRet (wBin fAdd (wVar 1) (wLc (wItems (wUn fRev (wVar 1))) (fName 3) (wB (wBin fNe (wBin fMul (wVar 3) (wVar 3)) (wVar 0))) (wBin fDiv (wVar 0) (wVar 3)) [3]))))))
/-- counted(size, first, later); slots: 0 size, 1 first, 2 later, 3 divisors, 4 table, 5 whole, 6 behind, 7 factor -/
def b_counted : WS := (wSeq (wSet 3 (wCall 1 wf_divisors_of (wCons (wVar 0) wNil)))
  (wSeq (wSet 4 (wDic1 1 1))
  (wSeq (wFor (wItems (wSl (wVar 3) (wPart (wC (.int 1))) wNoP)) (fName 5) (wSeq (wSet 6 (wLc (wItems (wSl (wVar 3) (wPart (wC (.int 1))) wNoP)) (fName 7) (wB (wBin fEq (wBin fMod (wVar 5) (wVar 7)) (wC (.int 0)))) (wDget 4 (wBin fDiv (wVar 5) (wVar 7))) [7]))
  (wDput 4 (wVar 5) (wBin fMul (wVar 2) (wCallB fSum (wCons (wVar 6) wNil))))))
  (wSeq (wIf (wB (wBin fEq (wVar 0) (wC (.int 1)))) (wRet (wC (.int 1))) wNext)
  (wRet (wBin fMul (wVar 1) (wCallB fSum (wCons (wLc (wItems (wSl (wVar 3) (wPart (wC (.int 1))) wNoP)) (fName 7) wYes (wDget 4 (wBin fDiv (wVar 0) (wVar 7))) [7]) wNil))))))))
/-- ladders(size); slots: 0 size -/
def b_ladders : WS := (wSeq (wDrop (wCall 3 wf_check_number (wCons (wVar 0) (wCons (wC (.int 1)) (wCons (wC (.int 100000)) wNil)))))
  (wRet (wCall 3 wf_counted (wCons (wVar 0) (wCons (wC (.int 1)) (wCons (wC (.int 1)) wNil))))))
/-- fillings(size, many); slots: 0 size, 1 many -/
def b_fillings : WS := (wSeq (wDrop (wCall 3 wf_check_number (wCons (wVar 0) (wCons (wC (.int 1)) (wCons (wC (.int 100000)) wNil)))))
  (wSeq (wDrop (wCall 3 wf_check_number (wCons (wVar 1) (wCons (wC (.int 1)) (wCons (wC (.int 6)) wNil)))))
  (wRet (wCall 3 wf_counted (wCons (wVar 0) (wCons (wVar 1) (wCons (wBin fSub (wVar 1) (wC (.int 1))) wNil)))))))
/-- law_cell(law_script, law_k); slots: 0 law_script, 1 law_k, 2 law_mixed, 3 law_part -/
def b_law_cell : WS := (wSeq (wIf (wB (wBin fLt (wVar 1) (wCallB fLen (wCons (wVar 0) wNil)))) (wRet (wIxV 0 (wVar 1))) wNext)
  (wSeq (wSet 2 (wBin fMod (wCallB fInt (wCons (wBin fMul (wC (.int 52361)) (wBin fAdd (wBin fAdd (wBin fMul (wVar 1) (wVar 1)) (wBin fMul (wC (.int 7)) (wVar 1))) (wC (.int 13)))) wNil)) (wC (.int 2147483543))))
  (wSeq (wFor (wItems (wSl (wVar 0) wNoP (wPart (wC (.int 3))))) (fName 3) (wSet 2 (wBin fMod (wCallB fInt (wCons (wBin fAdd (wBin fAdd (wBin fMul (wVar 2) (wC (.int 44087))) (wBin fMul (wVar 3) (wC (.int 5)))) (wC (.int 1201))) wNil)) (wC (.int 2147483543)))))
  (wRet (wVar 2)))))
/-- law_purse(law_cell_here); slots: 0 law_cell_here -/
def b_law_purse : WS := (wRet (wLst (wCons (wIfE (wOr (wB (wBin fLt (wVar 0) (wC (.int 0)))) (wB (wBin fGe (wVar 0) (wBin fPow (wC (.int 10)) (wC (.int 18)))))) (wCallB fAbs (wCons (wVar 0) wNil)) (wC (.int 0))) (wCons (wBin fMod (wCallB fInt (wCons (wBin fAdd (wBin fMul (wVar 0) (wC (.int 48271))) (wC (.int 11))) wNil)) (wC (.int 2147483543))) (wCons (wC (.int 0)) wNil)))))
/-- law_roll(law_purse_here, law_sides); slots: 0 law_purse_here, 1 law_sides, 2 law_figure, 3 law_seed -/
def b_law_roll : WS := (wSeq (wSetIx 0 (wC (.int 2)) (wBin fAdd (wIxV 0 (wC (.int 2))) (wC (.int 1))))
  (wSeq (wIf (wB (wBin fGt (wIxV 0 (wC (.int 0))) (wC (.int 0)))) (wSeq (wAsgJ 0 2 0 (wCallB fDivmod (wCons (wIxV 0 (wC (.int 0))) (wCons (wVar 1) wNil))))
  (wRet (wVar 2))) wNext)
  (wSeq (wSet 3 (wCallB fInt (wCons (wIxV 0 (wC (.int 1))) wNil)))
  (wSeq (wSetIx 0 (wC (.int 1)) (wBin fMod (wCallB fInt (wCons (wBin fAdd (wBin fMul (wVar 3) (wBin fAdd (wVar 3) (wC (.int 50021)))) (wBin fMul (wC (.int 91229)) (wIxV 0 (wC (.int 2))))) wNil)) (wC (.int 2147483543))))
  (wRet (wBin fMod (wCallB fInt (wCons (wBin fDiv (wIxV 0 (wC (.int 1))) (wC (.int 128))) wNil)) (wVar 1)))))))
/-- law_pick(law_purse_here, law_some); slots: 0 law_purse_here, 1 law_some -/
def b_law_pick : WS := (wRet (wIxV 1 (wCall 2 wf_law_roll (wCons (wVar 0) (wCons (wCallB fLen (wCons (wVar 1) wNil)) wNil)))))
/-- law_factors(law_size_here); slots: 0 law_size_here, 1 law_found, 2 law_line_here, 3 law_at, 4 law_row, 5 law_left, 6 law_by -/
def b_law_factors_1 : WS := (wSeq (wFor (wItems (wLc (wRng rg2 (wCons (wC (.int 2)) (wCons (wBin fAdd (wVar 5) (wC (.int 1))) wNil))) (fName 6) (wB (wBin fEq (wBin fMod (wCallB fInt (wCons (wVar 5) wNil)) (wVar 6)) (wC (.int 0)))) (wVar 6) [6])) (fName 6) (wApp 2 (wTup (wCons (wBin fAdd (wVar 4) (wTup (wCons (wVar 6) wNil))) (wCons (wBin fDiv (wVar 5) (wVar 6)) wNil)))))
  (wSet 3 (wBin fAdd (wVar 3) (wC (.int 1)))))
def b_law_factors_2 : WS := (wSeq (wIf (wB (wBin fEq (wVar 5) (wC (.int 1)))) (wApp 1 (wVar 4)) wNext)
  b_law_factors_1)
def b_law_factors : WS := (wSeq (wPar3 1 2 3 (wLst wNil) (wLst (wCons (wTup (wCons (wTup wNil) (wCons (wVar 0) wNil))) wNil)) (wC (.int 0)))
  (wSeq (wWhile (wB (wBin fLt (wVar 3) (wLenV 2))) (wSeq (wAsgN (fTupN [4, 5]) (wIxV 2 (wVar 3)))
  b_law_factors_2))
  (wRet (wVar 1))))
/-- law_sum(law_row); slots: 0 law_row, 1 law_found, 2 law_each -/
def b_law_sum : WS := (wSeq (wSet 1 (wC (.int 0)))
  (wSeq (wFor (wItems (wVar 0)) (fName 2) (wSet 1 (wBin fAdd (wVar 1) (wVar 2))))
  (wRet (wVar 1))))
/-- law_case_right(law_purse_here); slots: 0 law_purse_here, 1 law_turn, 2 law_size_here, 3 law_many_here, 4 law_due, 5 law_row, 6 law_found, 7 law_by, 8 law_great, 9 law_below, 10 law_parts_here, 11 law_some -/
def b_law_case_right : WS := (wSeq (wFor (wRng rg1 (wCons (wC (.int 8)) wNil)) (fName 1) (wSeq (wPar 2 3 (wBin fAdd (wC (.int 1)) (wCall 2 wf_law_roll (wCons (wVar 0) (wCons (wCall 2 wf_law_pick (wCons (wVar 0) (wCons (wLst (wCons (wC (.int 12)) (wCons (wC (.int 40)) (wCons (wC (.int 96)) wNil)))) wNil))) wNil)))) (wBin fAdd (wC (.int 1)) (wCall 2 wf_law_roll (wCons (wVar 0) (wCons (wC (.int 6)) wNil)))))
  (wSeq (wSet 4 (wC (.int 0)))
  (wSeq (wFor (wItems (wCall 1 wf_law_factors (wCons (wVar 2) wNil))) (fName 5) (wSeq (wSet 6 (wIfE (wB (wBin fEq (wVar 5) (wTup wNil))) (wC (.int 1)) (wVar 3)))
  (wSeq (wFor (wItems (wSl (wVar 5) (wPart (wC (.int 1))) wNoP)) (fName 7) (wSet 6 (wBin fMul (wVar 6) (wBin fSub (wVar 3) (wC (.int 1))))))
  (wSet 4 (wBin fAdd (wVar 4) (wVar 6))))))
  (wSeq (wIf (wB (wBin fNe (wCallB fRepr (wCons (wLst (wCons (wCall 2 wf_fillings (wCons (wVar 2) (wCons (wVar 3) wNil))) (wCons (wCallK 2 0 2 [1, 0] wf_fillings wNil (wCons (wVar 3) (wCons (wVar 2) wNil))) wNil))) wNil)) (wCallB fRepr (wCons (wLst (wCons (wVar 4) (wCons (wVar 4) wNil))) wNil)))) (wRet (wC (.bl false))) wNext)
  (wSeq (wSet 8 (wBin fAdd (wC (.int 1)) (wCall 2 wf_law_roll (wCons (wVar 0) (wCons (wCall 2 wf_law_pick (wCons (wVar 0) (wCons (wLst (wCons (wC (.int 400)) (wCons (wC (.int 100000)) wNil))) wNil))) wNil)))))
  (wSeq (wIf (wOr (wB (wBin fNe (wCall 2 wf_fillings (wCons (wVar 8) (wCons (wC (.int 1)) wNil))) (wC (.int 1)))) (wB (wBin fNe (wCall 2 wf_fillings (wCons (wVar 8) (wCons (wC (.int 2)) wNil))) (wIfE (wB (wBin fGt (wVar 8) (wC (.int 1)))) (wBin fMul (wC (.int 2)) (wCall 1 wf_ladders (wCons (wVar 8) wNil))) (wC (.int 1)))))) (wRet (wC (.bl false))) wNext)
  (wSeq (wSet 9 (wLc (wRng rg2 (wCons (wC (.int 1)) (wCons (wC (.int 400)) wNil))) (fName 7) (wAnd (wB (wBin fEq (wBin fMod (wCallB fInt (wCons (wVar 8) wNil)) (wVar 7)) (wC (.int 0)))) (wB (wBin fLt (wVar 7) (wVar 8)))) (wVar 7) [7]))
  (wIf (wAnd (wB (wBin fLt (wVar 8) (wC (.int 400)))) (wB (wBin fGt (wVar 8) (wC (.int 1))))) (wSeq (wSet 10 (wLc (wItems (wVar 9)) (fName 7) wYes (wIfE (wB (wBin fEq (wVar 7) (wC (.int 1)))) (wC (.int 1)) (wBin fDiv (wBin fMul (wCall 2 wf_fillings (wCons (wVar 7) (wCons (wVar 3) wNil))) (wBin fSub (wVar 3) (wC (.int 1)))) (wVar 3))) [7]))
  (wIf (wB (wBin fNe (wCall 2 wf_fillings (wCons (wVar 8) (wCons (wVar 3) wNil))) (wBin fMul (wVar 3) (wCall 1 wf_law_sum (wCons (wVar 10) wNil))))) (wRet (wC (.bl false))) wNext)) wNext)))))))))
  (wSeq (wSet 11 (wLst (wCons (wCall 2 wf_fillings (wCons (wC (.int 1)) (wCons (wC (.int 6)) wNil))) (wCons (wCall 2 wf_fillings (wCons (wC (.int 4)) (wCons (wC (.int 2)) wNil))) (wCons (wCall 2 wf_fillings (wCons (wC (.int 12)) (wCons (wC (.int 2)) wNil))) (wCons (wCall 2 wf_fillings (wCons (wC (.int 6)) (wCons (wC (.int 3)) wNil))) (wCons (wCall 2 wf_fillings (wCons (wC (.int 99991)) (wCons (wC (.int 6)) wNil))) (wCons (wCall 2 wf_fillings (wCons (wC (.int 30)) (wCons (wC (.int 3)) wNil))) wNil))))))))
  (wRet (wBin fEq (wVar 11) (wLst (wCons (wC (.int 1)) (wCons (wC (.int 4)) (wCons (wC (.int 16)) (wCons (wC (.int 15)) (wCons (wC (.int 6)) (wCons (wBin fAdd (wBin fAdd (wC (.int 3)) (wBin fMul (wC (.int 6)) (wC (.int 6)))) (wBin fMul (wC (.int 6)) (wC (.int 12)))) wNil)))))))))))
/-- law(law_script); slots: 0 law_script, 1 law_k -/
def b_law : WS := (wSeq (wFor (wRng rg1 (wCons (wCallB fMax2 (wCons (wC (.int 2)) (wCons (wCallB fMin2 (wCons (wCallB fLen (wCons (wVar 0) wNil)) (wCons (wC (.int 5)) wNil))) wNil))) wNil)) (fName 1) (wIf (wNot (wB (wCall 1 wf_law_case_right (wCons (wCall 1 wf_law_purse (wCons (wCall 2 wf_law_cell (wCons (wVar 0) (wCons (wVar 1) wNil))) wNil)) wNil)))) (wRet (wC (.bl false))) wNext))
  (wRet (wC (.bl true))))
theorem h_is_integer : ∀ (Z : Exn → Prop) (ds : List D) (R : S → Prop), ds.length = 1 → wf_is_integer Z ds R → b_is_integer ⟨fun _ => R (.d .non), R, fun _ => False, fun _ => False, fun x _ => Z x⟩ (rho0 [(Str.ofString "value")] ds) := by
  rintro Z _ R _ ⟨v, rfl, h⟩
  simp only [b_is_integer]; walk_at "dl"
  rw [isi_int rfl]
  simp only [D.isI, D.isBl, Bool.or_false]; walk_at "dl"
  rw [isi_bool rfl]
  exact h
theorem h_is_within : ∀ (Z : Exn → Prop) (ds : List D) (R : S → Prop), ds.length = 3 → wf_is_within Z ds R → b_is_within ⟨fun _ => R (.d .non), R, fun _ => False, fun _ => False, fun x _ => Z x⟩ (rho0 [(Str.ofString "value"), (Str.ofString "least"), (Str.ofString "most")] ds) := by
  rintro Z _ R _ ⟨v, a, b, rfl, ⟨h1, h2⟩, h⟩
  simp only [b_is_within]; walk_at "dl"
  refine ⟨v, rfl, ?_⟩
  simp only [h1, h2, decide_true]; walk_at "dl"
  exact h
theorem h_check_number : ∀ (Z : Exn → Prop) (ds : List D) (R : S → Prop), ds.length = 3 → wf_check_number Z ds R → b_check_number ⟨fun _ => R (.d .non), R, fun _ => False, fun _ => False, fun x _ => Z x⟩ (rho0 [(Str.ofString "value"), (Str.ofString "least"), (Str.ofString "most")] ds) := by
  rintro Z _ R _ ⟨v, a, b, rfl, hv, h⟩
  simp only [b_check_number]; walk_at "dl"
  exact ⟨v, a, b, rfl, hv, h⟩
theorem h_divisors_of : ∀ (Z : Exn → Prop) (ds : List D) (R : S → Prop), ds.length = 1 → wf_divisors_of Z ds R → b_divisors_of ⟨fun _ => R (.d .non), R, fun _ => False, fun _ => False, fun x _ => Z x⟩ (rho0 [(Str.ofString "size"), (Str.ofString "small"), (Str.ofString "number"), (Str.ofString "found")] ds) := by
  rintro Z _ R _ ⟨n, rfl, hn, h⟩
  simp only [b_divisors_of]; walk_at "dl"
  have sq0 : ∀ d, d < 1 → d * d ≤ n := fun d hd => by
    have : d = 0 := by omega
    subst this
    omega
  refine while_inv (fun ρ => ∃ r : Nat, ρ = [some (.d (.int n)), some (.own (nL (smallD r n))), some (.d (.int r)), none] ∧ 1 ≤ r ∧ r ≤ 100001 ∧ ∀ d, d < r → d * d ≤ n) (fun ρ => match (ρ[2]? : Option (Option S)) with | some (some (.d (.int r))) => 100002 - r.toNat | _ => 0) ⟨1, rfl, Nat.le_refl _, by omega, fun d hd => sq0 d hd⟩ ?_
  rintro ρ N ⟨r, rfl, hr1, hr2, hsq⟩ hN
  walk_at "dl"
  refine ⟨by walk_at "mo", ?_⟩
  have e1 : ((r : Int) * (r : Int)) = ((r * r : Nat) : Int) := (Int.natCast_mul r r).symm
  rw [e1]
  by_cases c : r * r ≤ n
  · rw [if_pos (by omega)]
    refine ⟨by omega, ?_⟩
    have e2 : (n : Int).fmod (r : Int) = ((n % r : Nat) : Int) := by rw [Int.fmod_eq_emod_of_nonneg _ (by omega : (0 : Int) ≤ r)]; exact (Int.natCast_emod n r).symm
    rw [e2]
    have hr : r ≤ n := Nat.le_trans (Nat.le_mul_of_pos_left r hr1) c
    have step : ∀ l : List Nat, l = smallD (r + 1) n → N [some (.d (.int n)), some (.own (nL l)), some (.d (.int ((r : Int) + 1))), none] := fun l hl => by
      subst hl
      refine hN _ ⟨r + 1, by rfl, by omega, by omega, fun d hd => ?_⟩ ?_
      · by_cases q : d = r
        · subst q; exact c
        · exact hsq d (by omega)
      · show 100002 - ((r : Int) + 1).toNat < 100002 - (r : Int).toNat
        omega
    by_cases c2 : n % r = 0
    · rw [if_pos (by omega)]
      have hlen : (smallD r n).length ≤ 100001 := by
        have := List.length_filter_le (fun d => decide (0 < d) && n % d == 0) (List.range r)
        unfold smallD
        simp at this ⊢
        omega
      refine ⟨Nat.lt_of_le_of_lt (by simpa using hlen) (by decide), ?_⟩
      simp only [b_divisors_of_1]; walk_at "dl"
      have := step (smallD r n ++ [r]) (by rw [small_succ, if_pos ⟨hr1, c2⟩])
      simpa using this
    · rw [if_neg (by omega)]
      simp only [b_divisors_of_1]; walk_at "dl"
      exact step _ (by rw [small_succ, if_neg (by omega)]; simp)
  · rw [if_neg (by omega)]
    have hsl := small_len r n
    have hb : 1000000 ≤ sizeLine := sizeLine_big
    refine ⟨noOwn_of rfl, ?_⟩
    have er : (nL (smallD r n)).reverse = nL (smallD r n).reverse := by simp
    rw [er]
    refine lc_nat (fun d => decide (d * d ≠ n)) (fun d => ((n / d : Nat) : Int)) (fun d hd acc K ha hK => ?_) (by simp; omega) ?_
    · rw [List.mem_reverse] at hd
      obtain ⟨d1, d2, d3⟩ := mem_small.mp hd
      walk_at "dl"
      have e3 : ((d : Int) * (d : Int)) = ((d * d : Nat) : Int) := (Int.natCast_mul d d).symm
      refine ⟨by walk_at "mo", ?_⟩
      rw [e3]
      by_cases q : d * d = n
      · rw [if_pos (by omega)]
        simpa [q] using hK
      · rw [if_neg (by omega)]
        refine ⟨.inl ⟨by omega, by omega⟩, ha, ?_⟩
        rw [natdiv]
        simpa [q] using hK
    · have e4 := divs_split hn.1 (by omega : n < r * r) hsq
      have e5 : nL (smallD r n) ++ List.map D.int (List.map (fun d => ((n / d : Nat) : Int)) (List.filter (fun d => decide (d * d ≠ n)) (smallD r n).reverse)) = nL (divs n) := by
        rw [e4]; simp [largeD]
      rw [e5]
      refine ⟨?_, h⟩
      have : (largeD r n).length ≤ (smallD r n).length := by
        unfold largeD
        rw [List.length_map]
        exact Nat.le_trans (List.length_filter_le _ _) (by simp)
      simp only [List.length_map, largeD] at this ⊢
      omega
theorem cut_tail {α : Type} {xs : List α} : cutD xs (some 1) none = xs.drop 1 := by
  unfold cutD
  have e1 : HT.sIx xs.length xs.length none = xs.length := rfl
  have e2 : HT.sIx xs.length 0 (some 1) = min 1 xs.length := by
    show (if (1 : Int) < 0 then ((1 : Int) + (xs.length : Int)).toNat else min (1 : Int).toNat xs.length) = _
    rw [if_neg (by decide)]
    rfl
  rw [e1, e2]
  cases xs with
  | nil => rfl
  | cons x xs => simp [Nat.min_def]
theorem sum_ints (l : List Int) {R : S → Prop} (h : R (.d (.int l.sum))) : fSum [.lst (l.map .int)] R := by rw [s_sumL]; exact h
theorem h_counted : ∀ (Z : Exn → Prop) (ds : List D) (R : S → Prop), ds.length = 3 → wf_counted Z ds R → b_counted ⟨fun _ => R (.d .non), R, fun _ => False, fun _ => False, fun x _ => Z x⟩ (rho0 [(Str.ofString "size"), (Str.ofString "first"), (Str.ofString "later"), (Str.ofString "divisors"), (Str.ofString "table"), (Str.ofString "whole"), (Str.ofString "behind"), (Str.ofString "factor")] ds) := by
  rintro Z _ R _ ⟨n, a, b, rfl, hn, hab, h⟩
  simp only [b_counted]; walk_at "dl"
  refine ⟨n, rfl, hn, ?_⟩
  have hdc := divs_cons hn.1
  have hcut : cutD (nL (divs n)) (some 1) none = nL (divs1 n) := by rw [cut_tail, hdc]; rfl
  have hlen : (divs n).length ≤ 100001 := by
    have := List.length_filter_le (fun d => decide (0 < d) && n % d == 0) (List.range (n + 1))
    unfold divs
    simp at this ⊢
    omega
  have hlen1 : (divs1 n).length ≤ 100001 := Nat.le_trans (List.length_filter_le _ _) hlen
  have hb : 1000000 ≤ sizeLine := sizeLine_big
  walk_at "dl"
  rw [hcut]
  refine for_map (fun l ρ => ∃ (pre : List Nat) (kvs : List (Key × D)) (x5 x6 : Option S), pre ++ l = divs1 n ∧ (∀ d, d = 1 ∨ d ∈ pre → valD kvs (.inl (d : Nat)) = some (.int (C b d))) ∧ kvs.length ≤ pre.length + 1 ∧ (∀ s, x6 = some s → True) ∧ ρ = [some (.d (.int n)), some (.d (.int a)), some (.d (.int b)), some (.d (.lst (nL (divs n)))), some (.odic kvs), x5, x6, none]) ⟨[], _, none, none, rfl, ?_, by simp, fun _ _ => trivial, rfl⟩ ?_ ?_
  · intro d hd
    simp only [List.not_mem_nil, or_false] at hd
    subst hd
    rw [C_one]; rfl
  · rintro w l ρ N ⟨pre, kvs, x5, x6, e, hv, hk, -, rfl⟩ hN
    have hw : w ∈ divs1 n := by rw [← e]; simp
    obtain ⟨hw1, hwn⟩ := (mem_divs1 hn.1).mp hw
    have hwle : w ≤ n := Nat.le_of_dvd hn.1 (Nat.dvd_of_mod_eq_zero hwn)
    walk_at "dl"
    rw [hcut]
    refine ⟨noOwn_of rfl, ?_⟩
    refine lc_nat (fun d => decide (w % d = 0)) (fun d => C b (w / d)) (fun d hd acc K ha hK => ?_) (by omega) ?_
    · obtain ⟨hd1, hdn⟩ := (mem_divs1 hn.1).mp hd
      have hdle : d ≤ n := Nat.le_of_dvd hn.1 (Nat.dvd_of_mod_eq_zero hdn)
      walk_at "dl"
      refine ⟨by omega, ?_⟩
      rw [natmod]
      by_cases q : w % d = 0
      · rw [if_pos (by omega)]
        refine ⟨.inl ⟨by omega, by omega⟩, ?_⟩
        rw [natdiv]
        refine ⟨.int (C b (w / d)), hv _ ?_, ha, by simpa [q] using hK⟩
        obtain ⟨ew, pw⟩ := div_pos' (by omega : 0 < w) q
        by_cases z : w / d = 1
        · exact .inl z
        · refine .inr ?_
          have hlt : w / d < w := Nat.div_lt_self (by omega) hd1
          have hm : w / d ∈ divs1 n := (mem_divs1 hn.1).mpr ⟨by omega, Nat.mod_eq_zero_of_dvd (Nat.dvd_trans ⟨d, by rw [Nat.mul_comm]; exact ew.symm⟩ (Nat.dvd_of_mod_eq_zero hwn))⟩
          rw [← e] at hm
          rcases List.mem_append.mp hm with y | y
          · exact y
          · exfalso
            have asc := divs1_asc n
            rw [← e] at asc
            have := (List.pairwise_append.mp asc).2.1
            rcases List.mem_cons.mp y with y | y
            · omega
            · have := (List.pairwise_cons.mp this).1 _ y
              omega
      · rw [if_neg (by omega)]
        simpa [q] using hK
    · rw [divs1_of hn.1 (by omega) hwn]
      refine sum_ints _ ?_
      walk_at "dl"
      refine ⟨by walk_at "mo", ?_, ?_⟩
      · have : pre.length ≤ (divs1 n).length := by rw [← e]; simp
        omega
      · refine hN _ ⟨pre ++ [w], _, some (.d (.int w)), some (.d (.lst (((divs1 w).map fun d => C b (w / d)).map .int))), by simp [← e], ?_, ?_, fun _ _ => trivial, rfl⟩
        · intro d hd
          rw [valD_put]
          by_cases z : (Sum.inl (d : Int) : Key) = .inl (w : Int)
          · rw [if_pos z]
            have z' : (d : Int) = (w : Int) := by injection z
            have : d = w := by omega
            rw [this, C_rec b hw1]
          · rw [if_neg z]
            refine hv d ?_
            rcases hd with hd | hd
            · exact .inl hd
            · rcases List.mem_append.mp hd with hd | hd
              · exact .inr hd
              · rw [List.mem_singleton] at hd
                exact absurd (by rw [hd]) z
        · have := putD_len kvs (.inl (w : Int)) (.int (b * ((divs1 w).map fun d => C b (w / d)).sum))
          simp only [List.length_append, List.length_singleton] at this ⊢
          omega
  · rintro ρ ⟨pre, kvs, x5, x6, e, hv, hk, -, rfl⟩
    rw [List.append_nil] at e
    subst e
    walk_at "dl"
    unfold Fl at h
    by_cases c : n = 1
    · rw [if_pos (by omega)]
      rw [if_pos c] at h
      exact h
    · rw [if_neg (by omega)]
      rw [if_neg c] at h
      rw [hcut]
      refine ⟨noOwn_of rfl, ?_⟩
      refine lc_nat (fun _ => true) (fun d => C b (n / d)) (fun d hd acc K ha hK => ?_) (by omega) ?_
      · obtain ⟨hd1, hdn⟩ := (mem_divs1 hn.1).mp hd
        have hdle : d ≤ n := Nat.le_of_dvd hn.1 (Nat.dvd_of_mod_eq_zero hdn)
        walk_at "dl"
        refine ⟨.inl ⟨by omega, by omega⟩, ?_⟩
        rw [natdiv]
        refine ⟨.int (C b (n / d)), hv _ ?_, ha, hK⟩
        obtain ⟨ew, pw⟩ := div_pos' hn.1 hdn
        by_cases z : n / d = 1
        · exact .inl z
        · refine .inr ((mem_divs1 hn.1).mpr ⟨by omega, ?_⟩)
          exact Nat.mod_eq_zero_of_dvd ⟨d, by rw [Nat.mul_comm]; exact ew.symm⟩
      · have : (divs1 n).filter (fun _ => true) = divs1 n := by simp
        rw [this]
        refine sum_ints _ ?_
        walk_at "dl"
        exact ⟨by walk_at "mo", h⟩

theorem h_law_cell : ∀ (Z : Exn → Prop) (ds : List D) (R : S → Prop), ds.length = 2 → wf_law_cell Z ds R → b_law_cell ⟨fun _ => R (.d .non), R, fun _ => False, fun _ => False, fun x _ => Z x⟩ (rho0 [(Str.ofString "_law_script"), (Str.ofString "_law_k"), (Str.ofString "_law_mixed"), (Str.ofString "_law_part")] ds) := by
  rintro Z _ R _ ⟨ns, k, rfl, hk, h⟩
  simp only [b_law_cell]; walk_at "dl"
  by_cases c0 : k < ns.length
  · rw [if_pos c0]
    have hi : k.toNat < ns.length := by omega
    exact ix_rls (x := .int (ns.getD k.toNat 0)) hk.1 (by rw [List.getElem?_map, List.getD_eq_getElem?_getD, List.getElem?_eq_getElem hi]; rfl) (h _)
  · rw [if_neg c0]
    refine ⟨by walk_at "mo", by walk_at "mo", by walk_at "mo", by decide, ?_⟩
    rw [cut_map]
    refine for_inv (fun ds ρ => ∃ (ms : List Int) (c : Int) (x : Option S), ds = ms.map .int ∧ ρ = [some (.d (.rls (ns.map .int))), some (.d (.int k)), some (.d (.int c)), x]) ⟨_, _, _, rfl, rfl⟩ ?_ ?_
    · rintro d ds' ρ N ⟨ms, c, x, e, rfl⟩ hN
      match ms, e with
      | m :: ms, e =>
        rw [List.map_cons] at e
        injection e with e e'
        subst e e'
        walk_at "dl"
        refine ⟨by walk_at "mo", by walk_at "mo", by decide, hN _ ⟨ms, _, some (.d (.int m)), rfl, rfl⟩⟩
    · rintro ρ ⟨ms, c, x, e, rfl⟩
      walk_at "dl"
      exact h _
theorem h_law_purse : ∀ (Z : Exn → Prop) (ds : List D) (R : S → Prop), ds.length = 1 → wf0_law_purse Z ds R → b_law_purse ⟨fun _ => R (.d .non), R, fun _ => False, fun _ => False, fun x _ => Z x⟩ (rho0 [(Str.ofString "_law_cell_here")] ds) := by
  rintro Z _ R _ ⟨v, rfl, h⟩
  simp only [b_law_purse]; walk_at "dl"
  have fin : ∀ x : Int, DL.MulOk v 48271 ∧ ¬(2147483543 : Int) = 0 ∧ R (.own [.int x, .int ((v * 48271 + 11).fmod 2147483543), .int 0]) := fun x => by
    refine ⟨by walk_at "mo", by decide, h _ _ ?_⟩
    have := fmod_pos (a := v * 48271 + 11) (b := 2147483543) (by decide)
    omega
  by_cases c1 : v < 0
  · simp only [c1]; walk_at "dl"
    exact fin _
  · simp only [c1]; walk_at "dl"
    refine ⟨pow_18, ?_⟩
    by_cases c2 : (10 : Int) ^ Int.toNat 18 ≤ v
    · simp only [c2]; walk_at "dl"
      exact fin _
    · simp only [c2]; walk_at "dl"
      exact fin _
theorem j_law_purse : ∀ (Z : Exn → Prop) (ds : List D) (R : S → Prop), ds.length = 1 → wf_law_purse Z ds R → wf0_law_purse Z ds fun s => ∃ x y z : Int, s = .own [.int x, .int y, .int z] ∧ (-(2 ^ 40) < y ∧ y < 2 ^ 40) ∧ R (.d .jar) := by
  rintro Z _ R _ ⟨v, rfl, h⟩
  exact ⟨v, rfl, fun x y b => ⟨x, y, 0, rfl, b, h⟩⟩
theorem h_law_roll : ∀ (Z : Exn → Prop) (ds : List D) (R : S → Prop), ds.length = 2 → wf_law_roll Z ds R → b_law_roll ⟨fun _ => R (.d .non), R, fun _ => False, fun _ => False, fun x _ => Z x⟩ (rho0 [(Str.ofString "_law_purse_here"), (Str.ofString "_law_sides"), (Str.ofString "_law_figure"), (Str.ofString "_law_seed")] ds) := by
  rintro Z _ R _ ⟨n, rfl, ⟨h1, h2⟩, h⟩
  simp only [b_law_roll]; walk_at "dl"
  intro _ b
  by_cases c : 0 < b
  · rw [if_pos c]
    intro a
    exact ⟨⟨h1, h2⟩, h _ (Int.emod_nonneg _ (by omega)) (Int.emod_lt_of_pos _ h1)⟩
  · rw [if_neg c]
    refine fun a ha => ⟨by walk_at "mo", fun b => ⟨by walk_at "mo", by decide, ?_, fun b hb => ⟨.inl ⟨by decide, by decide⟩, by omega, h _ (fmod_pos h1).1 (fmod_pos h1).2⟩⟩⟩
    have := fun x : Int => fmod_pos (a := x) (b := 2147483543) (by decide)
    exact ⟨Int.lt_of_lt_of_le (by decide) (this _).1, Int.lt_trans (this _).2 (by decide)⟩
theorem h_law_pick : ∀ (Z : Exn → Prop) (ds : List D) (R : S → Prop), ds.length = 2 → wf_law_pick Z ds R → b_law_pick ⟨fun _ => R (.d .non), R, fun _ => False, fun _ => False, fun x _ => Z x⟩ (rho0 [(Str.ofString "_law_purse_here"), (Str.ofString "_law_some")] ds) := by
  rintro Z _ R _ ⟨es, rfl, ⟨h1, h2⟩, h⟩
  simp only [b_law_pick]; walk_at "dl"
  refine ⟨_, rfl, ⟨by omega, by omega⟩, fun r hr0 hr1 => ?_⟩
  have hi : r.toNat < es.length := by omega
  walk_at "dl"
  exact ix_lst hr0 (List.getElem?_eq_getElem hi) (h _ (List.getElem_mem hi))


theorem h_law_factors : ∀ (Z : Exn → Prop) (ds : List D) (R : S → Prop), ds.length = 1 → wf_law_factors Z ds R → b_law_factors ⟨fun _ => R (.d .non), R, fun _ => False, fun _ => False, fun x _ => Z x⟩ (rho0 [(Str.ofString "_law_size_here"), (Str.ofString "_law_found"), (Str.ofString "_law_line_here"), (Str.ofString "_law_at"), (Str.ofString "_law_row"), (Str.ofString "_law_left"), (Str.ofString "_law_by")] ds) := by
  rintro Z _ R _ ⟨n, rfl, hn, h⟩
  simp only [b_law_factors]; walk_at "dl"
  have hb : 1000000 ≤ sizeLine := sizeLine_big
  have hnn : (n : Int) * n ≤ 240 * 240 := Int.mul_le_mul (by omega) (by omega) (by omega) (by omega)
  refine while_inv (fun ρ => ∃ (fnd : List (List Int)) (dn pd : List Itm) (x4 x5 x6 : Option S), ρ = [some (.d (.int n)), some (.own (fnd.map tI)), some (.own ((dn ++ pd).map itD)), some (.d (.int dn.length)), x4, x5, x6] ∧ (∀ m l : Int, sumW (Wt m l) fnd + sumI (Pt m l) pd = Fl m l n) ∧ (∀ r ∈ fnd, r.length ≤ 240) ∧ (dn.length : Int) + sumI (fun p => (p.2 : Int) * p.2) pd ≤ (n : Int) * n ∧ fnd.length ≤ dn.length ∧ (∀ p ∈ pd, 0 < p.2 ∧ p.1.length + p.2 ≤ n) ∧ (x6 = none ∨ ∃ i : Int, x6 = some (.d (.int i))))
    (fun ρ => match (ρ[3]? : Option (Option S)) with | some (some (.d (.int r))) => 57601 - r.toNat | _ => 0) ⟨[], [], [([], n)], none, none, none, rfl, by intro m l; simp [sumI, sumW, Pt], by simp, by simp [sumI], Nat.le_refl _, by intro p hp; rw [List.mem_singleton.mp hp]; exact ⟨hn.1, by simp⟩, .inl rfl⟩ ?_
  rintro ρ N ⟨fnd, dn, pd, x4, x5, x6, rfl, h1, hrl, h2, h3, h4, h5⟩ hN
  walk_at "dl"
  have hs0 := sumI_C0 pd
  cases pd with
  | nil =>
    rw [if_neg (by simp)]
    refine h fnd (by omega) hrl ?_
    simpa [sumI] using h1
  | cons p pd =>
    obtain ⟨row, left⟩ := p
    obtain ⟨hl0, hl1⟩ := h4 (row, left) (by simp)
    rw [if_pos (by simp; omega)]
    have hs1 := sumI_C0 pd
    rw [sumI_cons] at h2
    have hlp : 1 ≤ (left : Int) * left := by
      have : (1 : Int) * 1 ≤ left * left := Int.mul_le_mul (by omega) (by omega) (by omega) (by omega)
      omega
    simp only at h2 hl1
    refine ix_lst (x := itD (row, left)) (by omega) (by rw [Int.toNat_natCast, List.getElem?_map]; simp) ?_
    simp only [itD]; walk_at "dl"
    simp only [b_law_factors_2]; walk_at "dl"
    have key : ∀ (E : DEnds) (fnd' : List (List Int)), E.nx = N → fnd'.length ≤ dn.length + 1 → (∀ r ∈ fnd', r.length ≤ 240) → (∀ m l : Int, sumW (Wt m l) fnd' + sumI (Pt m l) pd + sumF (fun d => Pt m l (kid row left d)) (divs1 left) = Fl m l n) → b_law_factors_1 E [some (.d (.int n)), some (.own (fnd'.map tI)), some (.own ((dn ++ (row, left) :: pd).map itD)), some (.d (.int dn.length)), some (.d (.tup (row.map .int))), some (.d (.int left)), x6] := by
      intro E fnd' hE hf hr' hsum
      simp only [b_law_factors_1]; walk_at "dl"
      refine ⟨⟨by omega, by omega, by omega, by omega⟩, noOwn_of ?_, ?_⟩
      · rcases h5 with rfl | ⟨i, rfl⟩ <;> rfl
      · have er : rangeD 2 ((left : Int) + 1 - 2).toNat = nL ((List.range (left - 1)).map (· + 2)) := by
          have e0 : ((left : Int) + 1 - 2).toNat = left - 1 := by omega
          unfold rangeD
          rw [e0, nL, List.map_map]
          apply List.map_congr_left
          intro i _
          simp only [Function.comp_def, D.int.injEq]
          push_cast
          omega
        rw [er]
        refine lc_nat (fun d => decide (left % d = 0)) (fun d => (d : Int)) (fun d hd acc K ha hK => ?_) (by simp; omega) ?_
        · obtain ⟨i, hi, rfl⟩ := List.mem_map.mp hd
          walk_at "dl"
          refine ⟨by omega, ?_⟩
          rw [natmod]
          by_cases q : left % (i + 2) = 0
          · rw [if_pos (by omega)]
            exact ⟨ha, by simpa [q] using hK⟩
          · rw [if_neg (by omega)]
            simpa [q] using hK
        · rw [range_divs1 hl0]
          have e5 : ((divs1 left).map fun (d : Nat) => (d : Int)).map D.int = nL (divs1 left) := by simp
          rw [e5]
          have hLT : (dn.length : Int) + 1 + sumI (fun p => (p.2 : Int) * p.2) pd + sumF (fun d => ((left / d : Nat) : Int) * (left / d : Nat)) (divs1 left) ≤ (n : Int) * n := by
            have := sq_240 left hl0 (by omega)
            omega
          refine for_map (fun l ρ => ∃ (pre : List Nat) (x6 : Option S), pre ++ l = divs1 left ∧ (x6 = none ∨ ∃ i : Int, x6 = some (.d (.int i))) ∧ ρ = [some (.d (.int n)), some (.own (fnd'.map tI)), some (.own ((dn ++ (row, left) :: pd).map itD ++ (pre.map (kid row left)).map itD)), some (.d (.int dn.length)), some (.d (.tup (row.map .int))), some (.d (.int left)), x6]) ⟨[], x6, rfl, h5, by simp⟩ ?_ ?_
          · rintro d l ρ M ⟨pre, x6, e, h6, rfl⟩ hM
            have hd : d ∈ divs1 left := by rw [← e]; simp
            obtain ⟨hd1, hdn⟩ := (mem_divs1 hl0).mp hd
            have hdle := Nat.le_of_dvd hl0 (Nat.dvd_of_mod_eq_zero hdn)
            walk_at "dl"
            refine ⟨?_, .inl ⟨by omega, by omega⟩, ?_, ?_⟩
            · omega
            · have hp : pre.length ≤ (divs1 left).length := by rw [← e]; simp
              have hd2 : (divs1 left).length ≤ left + 1 := by
                have := List.length_filter_le (fun d => decide (d ≠ 1)) (divs left)
                have h3 := List.length_filter_le (fun d => decide (0 < d) && left % d == 0) (List.range (left + 1))
                unfold divs1 divs at *
                simp only [List.length_range] at h3
                omega
              have hpd := sumI_len pd fun p hp => (h4 p (List.mem_cons_of_mem _ hp)).1
              simp only [List.length_append, List.length_map, List.length_cons]
              omega
            · rw [natdiv]
              refine hM _ ⟨pre ++ [d], some (.d (.int d)), by simp [← e], .inr ⟨_, rfl⟩, ?_⟩
              simp [itD, kid]
          · rintro ρ ⟨pre, x6, e, h6, rfl⟩
            rw [List.append_nil] at e
            subst e
            walk_at "dl"
            rw [hE]
            refine hN _ ⟨fnd', dn ++ [(row, left)], pd ++ ((divs1 left).map (kid row left)), some (.d (.tup (row.map .int))), some (.d (.int left)), x6, ?_, ?_, ?_, ?_, by simpa using hf, ?_, h6⟩ ?_
            · simp
            · intro m l
              rw [sumI_append]
              have e7 : sumI (Pt m l) ((divs1 left).map (kid row left)) = sumF (fun d => Pt m l (kid row left d)) (divs1 left) := by simp [sumI, sumF, Function.comp_def]
              rw [e7]
              have := hsum m l
              omega
            · exact hr'
            · rw [sumI_append]
              have : sumI (fun p => (p.2 : Int) * p.2) ((divs1 left).map (kid row left)) = sumF (fun d => ((left / d : Nat) : Int) * (left / d : Nat)) (divs1 left) := by simp [sumI, sumF, kid, Function.comp_def]
              rw [this, List.length_append, List.length_singleton]
              omega
            · intro p hp
              rcases List.mem_append.mp hp with hp | hp
              · exact h4 p (List.mem_cons_of_mem _ hp)
              · obtain ⟨d, hd, rfl⟩ := List.mem_map.mp hp
                obtain ⟨hd1, hdn⟩ := (mem_divs1 hl0).mp hd
                obtain ⟨ed, pd'⟩ := div_pos' hl0 hdn
                have hlt : left / d < left := Nat.div_lt_self hl0 hd1
                have hl1' : row.length + left ≤ n := hl1
                refine ⟨show 0 < left / d from pd', ?_⟩
                show (row ++ [(d : Int)]).length + left / d ≤ n
                rw [List.length_append, List.length_singleton]
                generalize left / d = y at *
                omega
            · show 57601 - ((dn.length : Int) + 1).toNat < 57601 - (dn.length : Int).toNat
              omega
    by_cases c : left = 1
    · subst c
      rw [if_pos (by omega)]
      refine ⟨by omega, ?_⟩
      have e8 : fnd.map tI ++ [D.tup (row.map .int)] = (fnd ++ [row]).map tI := by simp
      rw [e8]
      refine key _ _ rfl (by simp; omega) (fun r hr => ?_) fun m l => ?_
      · rcases List.mem_append.mp hr with hr | hr
        · exact hrl r hr
        · rw [List.mem_singleton.mp hr]; omega
      · have h := h1 m l
        rw [sumI_cons, Pt_one] at h
        have e7 : divs1 1 = [] := by decide
        rw [e7, sumW_append]
        simp only [sumF, sumW, List.map_nil, List.sum_nil, List.map_cons, List.sum_cons] at h ⊢
        omega
    · rw [if_neg (by omega)]
      refine key _ _ rfl (by omega) hrl fun m l => ?_
      have h := h1 m l
      rw [sumI_cons, Pt_rec m l row (by omega)] at h
      omega

theorem h_ladders : ∀ (Z : Exn → Prop) (ds : List D) (R : S → Prop), ds.length = 1 → wf_ladders Z ds R → b_ladders ⟨fun _ => R (.d .non), R, fun _ => False, fun _ => False, fun x _ => Z x⟩ (rho0 [(Str.ofString "size")] ds) := by
  rintro Z _ R _ ⟨n, rfl, hn, h⟩
  simp only [b_ladders]; walk_at "dl"
  refine ⟨n, 1, 100000, rfl, ⟨by omega, by omega⟩, ?_⟩
  refine ⟨n, 1, 1, rfl, hn, by decide, ?_⟩
  rw [Fl_C 1 hn.1]
  exact h
theorem h_fillings : ∀ (Z : Exn → Prop) (ds : List D) (R : S → Prop), ds.length = 2 → wf_fillings Z ds R → b_fillings ⟨fun _ => R (.d .non), R, fun _ => False, fun _ => False, fun x _ => Z x⟩ (rho0 [(Str.ofString "size"), (Str.ofString "many")] ds) := by
  rintro Z _ R _ ⟨n, m, rfl, hn, hm, h⟩
  simp only [b_fillings]; walk_at "dl"
  refine ⟨n, 1, 100000, rfl, ⟨by omega, by omega⟩, ?_⟩
  refine ⟨m, 1, 6, rfl, hm, ?_⟩
  exact ⟨n, m, m - 1, rfl, hn, ⟨by omega, by omega, by omega, by omega⟩, h⟩
theorem h_law_sum : ∀ (Z : Exn → Prop) (ds : List D) (R : S → Prop), ds.length = 1 → wf_law_sum Z ds R → b_law_sum ⟨fun _ => R (.d .non), R, fun _ => False, fun _ => False, fun x _ => Z x⟩ (rho0 [(Str.ofString "_law_row"), (Str.ofString "_law_found"), (Str.ofString "_law_each")] ds) := by
  rintro Z _ R _ ⟨ns, rfl, h⟩
  simp only [b_law_sum]; walk_at "dl"
  refine for_map (fun l ρ => ∃ (pre : List Int) (x : Option S), pre ++ l = ns ∧ ρ = [some (.d (.lst (ns.map .int))), some (.d (.int pre.sum)), x]) ⟨[], none, rfl, rfl⟩ ?_ ?_
  · rintro a l ρ N ⟨pre, x, e, rfl⟩ hN
    walk_at "dl"
    exact hN _ ⟨pre ++ [a], some (.d (.int a)), by simpa using e, by simp⟩
  · rintro ρ ⟨pre, x, e, rfl⟩
    rw [List.append_nil] at e
    subst e
    walk_at "dl"
    exact h
theorem s_eqT0 {a : List Int} {R : S → Prop} : fEq (tI a) (.tup []) R = R (.d (.bl (decide (a = [])))) := s_eqTI (b := [])
theorem h_law_case_right : ∀ (Z : Exn → Prop) (ds : List D) (R : S → Prop), ds.length = 1 → wf_law_case_right Z ds R → b_law_case_right ⟨fun _ => R (.d .non), R, fun _ => False, fun _ => False, fun x _ => Z x⟩ (rho0 [(Str.ofString "_law_purse_here"), (Str.ofString "_law_turn"), (Str.ofString "_law_size_here"), (Str.ofString "_law_many_here"), (Str.ofString "_law_due"), (Str.ofString "_law_row"), (Str.ofString "_law_found"), (Str.ofString "_law_by"), (Str.ofString "_law_great"), (Str.ofString "_law_below"), (Str.ofString "_law_parts_here"), (Str.ofString "_law_some")] ds) := by
  rintro Z _ R _ ⟨rfl, h⟩
  simp only [b_law_case_right]; walk_at "dl"
  have hb : 1000000 ≤ sizeLine := sizeLine_big
  refine ⟨by decide, ?_⟩
  refine for_rng (fun i ρ => ∃ x1 x2 x3 x4 x5 x6 x7 x8 x9 x10 : Option S, (x7 = none ∨ ∃ i : Int, x7 = some (.d (.int i))) ∧ ρ = [some (.d .jar), x1, x2, x3, x4, x5, x6, x7, x8, x9, x10, none]) ⟨none, none, none, none, none, none, none, none, none, none, .inl rfl, rfl⟩ ?_ ?_
  · rintro i ρ N hi ⟨x1, x2, x3, x4, x5, x6, x7, x8, x9, x10, hx7, rfl⟩ hN
    walk_at "dl"
    refine ⟨_, rfl, ⟨by simp, by simp⟩, fun d hd => ?_⟩
    obtain ⟨k, rfl, hk⟩ : ∃ k : Int, d = .int k ∧ 0 < k ∧ k ≤ 96 := by
      simp only [List.mem_cons, List.not_mem_nil, or_false] at hd
      rcases hd with h | h | h <;> exact ⟨_, h, by decide, by decide⟩
    clear hd
    refine ⟨k, rfl, ⟨by omega, by omega⟩, fun r hr0 hr1 => ?_⟩
    walk_at "dl"
    refine ⟨6, rfl, by decide, fun q hq0 hq1 => ?_⟩
    walk_at "dl"
    obtain ⟨n, hn⟩ : ∃ n : Nat, 1 + r = n := ⟨(1 + r).toNat, by omega⟩
    obtain ⟨m, hm⟩ : ∃ m : Nat, 1 + q = m := ⟨(1 + q).toNat, by omega⟩
    rw [hn, hm]
    have hn1 : 0 < n ∧ n ≤ 96 := by omega
    have hm1 : 0 < m ∧ m ≤ 6 := by omega
    refine ⟨n, rfl, ⟨hn1.1, by omega⟩, fun rows hrl hrr hrows => ?_⟩
    walk_at "dl"
    refine for_map (fun l ρ => ∃ (pre : List (List Int)) (x5 x6 x7 : Option S), pre ++ l = rows ∧ (x7 = none ∨ ∃ i : Int, x7 = some (.d (.int i))) ∧ ρ = [some (.d .jar), some (.d (.int i)), some (.d (.int n)), some (.d (.int m)), some (.d (.int (sumW (Wt m ((m : Int) - 1)) pre))), x5, x6, x7, x8, x9, x10, none]) ⟨[], x5, x6, x7, rfl, hx7, rfl⟩ ?_ ?_
    · rintro row l ρ M ⟨pre, x5, x6, x7, e, h7, rfl⟩ hM
      have hrow := hrr row (by rw [← e]; simp)
      walk_at "dl"
      rw [s_eqT0]
      walk_at "dl"
      have inner : ∀ (w0 : Int) (hw : w0 * ((m : Int) - 1) ^ (row.length - 1) = Wt m ((m : Int) - 1) row) (E : DEnds), (∀ x7 : Option S, (x7 = none ∨ ∃ i : Int, x7 = some (.d (.int i))) → E.nx [some (.d .jar), some (.d (.int i)), some (.d (.int n)), some (.d (.int m)), some (.d (.int (sumW (Wt m ((m : Int) - 1)) pre))), some (.d (tI row)), some (.d (.int (Wt m ((m : Int) - 1) row))), x7, x8, x9, x10, none]) →
          wForL (fName 7) (wSet 6 (wBin fMul (wVar 6) (wBin fSub (wVar 3) (wC (.int 1))))) E (cutD (row.map D.int) (some 1) none) [some (.d .jar), some (.d (.int i)), some (.d (.int n)), some (.d (.int m)), some (.d (.int (sumW (Wt m ((m : Int) - 1)) pre))), some (.d (tI row)), some (.d (.int w0)), x7, x8, x9, x10, none] := by
        intro w0 hw E hE
        rw [cut_tail, ← List.map_drop]
        refine for_map (fun l ρ => ∃ (k : Nat) (x7 : Option S), k + l.length = row.length - 1 ∧ (x7 = none ∨ ∃ i : Int, x7 = some (.d (.int i))) ∧ ρ = [some (.d .jar), some (.d (.int i)), some (.d (.int n)), some (.d (.int m)), some (.d (.int (sumW (Wt m ((m : Int) - 1)) pre))), some (.d (tI row)), some (.d (.int (w0 * ((m : Int) - 1) ^ k))), x7, x8, x9, x10, none]) ⟨0, x7, by simp, h7, by simp⟩ ?_ ?_
        · rintro a l ρ M ⟨k, x7, e, h7, rfl⟩ hM
          walk_at "dl"
          refine ⟨by walk_at "mo", hM _ ⟨k + 1, some (.d (.int a)), by rw [List.length_cons] at e; omega, .inr ⟨_, rfl⟩, ?_⟩⟩
          rw [Int.pow_succ, Int.mul_assoc]
        · rintro ρ ⟨k, x7, e, h7, rfl⟩
          have ek : k = row.length - 1 := by simpa using e
          subst ek
          rw [hw]
          exact hE x7 h7
      have fin : ∀ x7 : Option S, (x7 = none ∨ ∃ i : Int, x7 = some (.d (.int i))) → M [some (.d .jar), some (.d (.int i)), some (.d (.int n)), some (.d (.int m)), some (.d (.int (sumW (Wt m ((m : Int) - 1)) pre + Wt m ((m : Int) - 1) row))), some (.d (tI row)), some (.d (.int (Wt m ((m : Int) - 1) row))), x7, x8, x9, x10, none] := fun x7 h7 => hM _ ⟨pre ++ [row], some (.d (tI row)), some (.d (.int (Wt m ((m : Int) - 1) row))), x7, by simp [← e], h7, by rw [sumW_append]; simp [sumW]⟩
      by_cases c : row = []
      · rw [if_pos c]
        refine inner 1 (by simp [Wt, c]) _ fun x7 h7 => ?_
        walk_at "dl"
        exact fin x7 h7
      · rw [if_neg c]
        refine inner m (by simp [Wt, c]) _ fun x7 h7 => ?_
        walk_at "dl"
        exact fin x7 h7
    · rintro ρ ⟨pre, x5, x6, x7, e, h7, rfl⟩
      rw [List.append_nil] at e
      subst e
      rw [hrows m ((m : Int) - 1)]
      walk_at "dl"
      have hF := Fl_small n m hn1.1 hn1.2 hm1.1 hm1.2
      refine ⟨n, m, rfl, ⟨hn1.1, by omega⟩, ⟨by omega, by omega⟩, ?_⟩
      refine ⟨n, m, rfl, ⟨hn1.1, by omega⟩, ⟨by omega, by omega⟩, ?_⟩
      have hC : (Fl (m : Int) ((m : Int) - 1) n).natAbs < 2 ^ 200 := Nat.lt_trans hF (by decide +kernel)
      generalize hFe : Fl (m : Int) ((m : Int) - 1) n = F at *
      have hL2 : (D.lst [.int F, .int F]).nice 1 = true := nice_lst fun d hd => by
        simp only [List.mem_cons, List.not_mem_nil, or_false, or_self] at hd
        rw [hd]; exact nice_int hC
      have hW2 : (D.lst [.int F, .int F]).wt ≤ 200000 := by simp [D.wt, D.wtA]
      refine repr_of hL2 (by decide) hW2 (repr_of hL2 (by decide) hW2 ?_)
      walk_at "dl"
      refine ⟨_, rfl, ⟨by simp, by simp⟩, fun d hd => ?_⟩
      obtain ⟨k2, rfl, hk2⟩ : ∃ k2 : Int, d = .int k2 ∧ 0 < k2 ∧ k2 ≤ 100000 := by
        simp only [List.mem_cons, List.not_mem_nil, or_false] at hd
        rcases hd with h | h <;> exact ⟨_, h, by decide, by decide⟩
      clear hd
      refine ⟨k2, rfl, ⟨by omega, by omega⟩, fun r2 hr20 hr21 => ?_⟩
      walk_at "dl"
      obtain ⟨g, hg⟩ : ∃ g : Nat, 1 + r2 = g := ⟨(1 + r2).toNat, by omega⟩
      rw [hg]
      have hg1 : 0 < g ∧ g ≤ 100000 := by omega
      refine ⟨g, 1, rfl, hg1, by decide, ?_⟩
      rw [show ((1 : Int) - 1) = 0 from rfl, Fl_1 hg1.1]
      walk_at "dl"
      refine ⟨g, 2, rfl, hg1, by decide, ?_⟩
      rw [show ((2 : Int) - 1) = 1 from rfl]
      walk_at "dl"
      by_cases c : 1 < g
      case' pos =>
        rw [if_pos (by omega)]
        refine ⟨g, rfl, hg1, ?_⟩
        walk_at "dl"
        refine ⟨by walk_at "mo", ?_⟩
        rw [if_pos (Fl_2 c)]
      case' neg =>
        rw [if_neg (by omega)]
        have eg : g = 1 := by omega
        rw [if_pos (by rw [eg]; rfl)]
      all_goals
        have er : rangeD 1 (400 - 1 : Int).toNat = nL ((List.range 399).map (· + 1)) := by
          unfold rangeD
          rw [nL, List.map_map]
          apply List.map_congr_left
          intro i _
          simp only [Function.comp_def, D.int.injEq]
          push_cast
          omega
        rw [er]
        refine ⟨by decide, noOwn_of (by rcases h7 with rfl | ⟨i, rfl⟩ <;> rfl), ?_⟩
        refine lc_nat (fun d => decide (g % d = 0 ∧ d < g)) (fun d => (d : Int)) (fun d hd acc K ha hK => ?_) (by simp; omega) ?_
        · obtain ⟨j, hj, rfl⟩ := List.mem_map.mp hd
          walk_at "dl"
          refine ⟨by omega, ?_⟩
          rw [natmod]
          by_cases q1 : g % (j + 1) = 0
          · rw [if_pos (by omega)]
            by_cases q2 : j + 1 < g
            · simp only [show ((j + 1 : Nat) : Int) < (g : Int) from by omega, decide_true]; walk_at "dl"
              exact ⟨ha, by simpa [q1, q2] using hK⟩
            · simp only [show ¬ ((j + 1 : Nat) : Int) < (g : Int) from by omega, decide_false]; walk_at "dl"
              simpa [q1, q2] using hK
          · rw [if_neg (by omega)]
            simpa [q1] using hK
        · have e5 : ∀ L : List Nat, ((L.map fun (d : Nat) => (d : Int)).map D.int) = nL L := by intro L; simp
          rw [e5]
          have hno : ∀ (y : Option S), NoOwn [some (.d .jar), some (.d (.int i)), some (.d (.int n)), some (.d (.int m)), some (.d (.int F)), x5, x6, x7, some (.d (.int g)), y, x10, none] [7] := fun y => noOwn_of (by rcases h7 with rfl | ⟨i, rfl⟩ <;> rfl)
          by_cases c4 : g < 400
          · rw [if_pos (by omega)]
            by_cases c1 : 1 < g
            · rw [if_pos (by omega)]
              have hBL : ((List.range 399).map (· + 1)).filter (fun d => decide (g % d = 0 ∧ d < g)) = (divs g).filter fun d => decide (d ≠ g) := by
                refine asc_ext (List.Pairwise.filter _ ?_) ((divs_asc g).filter _) fun x => ?_
                · rw [List.pairwise_map]
                  exact List.Pairwise.imp (fun h => by omega) (range_asc _)
                · rw [List.mem_filter, List.mem_filter, List.mem_map, mem_divs hg1.1]
                  simp only [decide_eq_true_eq, List.mem_range]
                  constructor
                  · rintro ⟨⟨j, hj, rfl⟩, h1, h2⟩
                    exact ⟨⟨by omega, h1⟩, by omega⟩
                  · rintro ⟨⟨h1, h2⟩, h3⟩
                    have := Nat.le_of_dvd hg1.1 (Nat.dvd_of_mod_eq_zero h2)
                    exact ⟨⟨x - 1, by omega, by omega⟩, h2, by omega⟩
              rw [hBL]
              refine ⟨hno _, ?_⟩
              have hlen : ((divs g).filter fun d => decide (d ≠ g)).length ≤ 100001 := by
                have := List.length_filter_le (fun d => decide (d ≠ g)) (divs g)
                have h3 := List.length_filter_le (fun d => decide (0 < d) && g % d == 0) (List.range (g + 1))
                unfold divs at *
                simp only [List.length_range] at h3
                omega
              refine lc_nat (fun _ => true) (fun d => C ((m : Int) - 1) d) (fun d hd acc K ha hK => ?_) (by omega) ?_
              · obtain ⟨hd1, hd2⟩ := List.mem_filter.mp hd
                obtain ⟨hd3, hd4⟩ := (mem_divs hg1.1).mp hd1
                have hd5 := Nat.le_of_dvd hg1.1 (Nat.dvd_of_mod_eq_zero hd4)
                walk_at "dl"
                by_cases z : d = 1
                · subst z
                  rw [if_pos (by rfl)]
                  refine ⟨ha, ?_⟩
                  rw [C_one] at hK
                  exact hK
                · rw [if_neg (by omega)]
                  refine ⟨d, m, rfl, ⟨hd3, by omega⟩, ⟨by omega, by omega⟩, ?_⟩
                  walk_at "dl"
                  refine ⟨by walk_at "mo", .inl ⟨by omega, by omega⟩, ha, ?_⟩
                  have e9 := Fl_C' (m : Int) ((m : Int) - 1) (by omega : 1 < d)
                  rw [Int.mul_comm, e9, Int.mul_fdiv_cancel_left _ (by omega)] 
                  exact hK
              · have e10 : ((divs g).filter fun d => decide (d ≠ g)).filter (fun _ => true) = (divs g).filter fun d => decide (d ≠ g) := by simp
                rw [e10]
                refine ⟨g, m, rfl, hg1, ⟨by omega, by omega⟩, ?_⟩
                refine ⟨_, rfl, ?_⟩
                walk_at "dl"
                refine ⟨by walk_at "mo", ?_⟩
                rw [if_pos]
                · exact hN _ ⟨_, _, _, _, _, _, _, _, _, _, h7, rfl⟩
                · have := sumF_proper (C ((m : Int) - 1)) c1
                  unfold Fl
                  rw [if_neg (by omega)]
                  unfold sumF at this
                  rw [this]
            · rw [if_neg (by omega)]
              exact hN _ ⟨_, _, _, _, _, _, _, _, _, _, h7, rfl⟩
          · rw [if_neg (by omega)]
            exact hN _ ⟨_, _, _, _, _, _, _, _, _, _, h7, rfl⟩
  · rintro ρ ⟨x1, x2, x3, x4, x5, x6, x7, x8, x9, x10, hx7, rfl⟩
    walk_at "dl"
    refine ⟨1, 6, rfl, by decide, by decide, ?_⟩
    refine ⟨4, 2, rfl, by decide, by decide, ?_⟩
    refine ⟨12, 2, rfl, by decide, by decide, ?_⟩
    refine ⟨6, 3, rfl, by decide, by decide, ?_⟩
    refine ⟨(99991 : Int).toNat, 6, rfl, by decide, by decide, ?_⟩
    refine ⟨30, 3, rfl, by decide, by decide, ?_⟩
    have v1 : Fl 6 (6 - 1) 1 = 1 := rfl
    have v2 : Fl 2 (2 - 1) 4 = 4 := by rw [Fl_F 2 (2 - 1) (f := 3) (by decide) (by decide)]; decide +kernel
    have v3 : Fl 2 (2 - 1) 12 = 16 := by rw [Fl_F 2 (2 - 1) (f := 4) (by decide) (by decide)]; decide +kernel
    have v4 : Fl 3 (3 - 1) 6 = 15 := by rw [Fl_F 3 (3 - 1) (f := 3) (by decide) (by decide)]; decide +kernel
    have v5 : Fl 6 (6 - 1) (Int.toNat 99991) = 6 := by
      obtain ⟨h1, h2⟩ := prime_of (p := Int.toNat 99991) (r := 317) (by decide +kernel)
      exact Fl_prime 6 (6 - 1) h1 h2
    have v6 : Fl 3 (3 - 1) 30 = 111 := by rw [Fl_F 3 (3 - 1) (f := 5) (by decide) (by decide)]; decide +kernel
    rw [v1, v2, v3, v4, v5, v6]
    refine ⟨by walk_at "mo", by walk_at "mo", ?_⟩
    exact eq_self (n := 2) (by decide +kernel) (by decide) h
theorem h_law : ∀ (Z : Exn → Prop) (ds : List D) (R : S → Prop), ds.length = 1 → wf_law Z ds R → b_law ⟨fun _ => R (.d .non), R, fun _ => False, fun _ => False, fun x _ => Z x⟩ (rho0 [(Str.ofString "_law_script"), (Str.ofString "_law_k")] ds) := by
  rintro Z _ R _ ⟨ns, rfl, h⟩
  simp only [b_law]; walk_at "dl"
  generalize hq : (if (if 5 < (ns.length : Int) then 5 else (ns.length : Int)) > 2 then if 5 < (ns.length : Int) then 5 else (ns.length : Int) else 2) = q
  have hq2 : 2 ≤ q ∧ q ≤ 5 := by rw [← hq]; split <;> split <;> omega
  refine ⟨⟨by omega, by omega⟩, ?_⟩
  refine for_rng (fun i ρ => ∃ x, ρ = [some (.d (.rls (ns.map .int))), x]) ⟨_, rfl⟩ ?_ ?_
  · rintro i ρ N hi ⟨x, rfl⟩ hN
    walk_at "dl"
    refine ⟨ns, _, rfl, by omega, fun v => ?_⟩
    refine ⟨v, rfl, ?_⟩
    refine ⟨rfl, ?_⟩
    walk_at "dl"
    exact hN _ ⟨_, rfl⟩
  · rintro ρ ⟨x, rfl⟩
    walk_at "dl"
    exact h

def top (i : Nat) : Stmt := PySem.Challenge.pw_onesums_k41_whole_fillings_counted.main.body.getD i (.Pass ⟨0, 0, 0, 0⟩)
/-- what the top has left beside the defs -/
structure Top (mg : Str → Option Value) : Prop where
  n_abs : mg (Str.ofString "abs") = none
  n_bool : mg (Str.ofString "bool") = none
  n_divmod : mg (Str.ofString "divmod") = none
  n_int : mg (Str.ofString "int") = none
  n_isinstance : mg (Str.ofString "isinstance") = none
  n_len : mg (Str.ofString "len") = none
  n_max : mg (Str.ofString "max") = none
  n_min : mg (Str.ofString "min") = none
  n_range : mg (Str.ofString "range") = none
  n_repr : mg (Str.ofString "repr") = none
  n_sum : mg (Str.ofString "sum") = none
  n_tuple : mg (Str.ofString "tuple") = none
  c_MOST_FILLED : ∃ t, mg (Str.ofString "MOST_FILLED") = some (.int (100000) t)
  c_MOST_LISTS : ∃ t, mg (Str.ofString "MOST_LISTS") = some (.int (6) t)
abbrev s_is_integer : Stmt := top 5
theorem sc_is_integer : FnScope [(Str.ofString "value")] [(Str.ofString "value")] (defScope s_is_integer) := ⟨rfl, rfl, rfl, by decide +kernel, rfl, by decide +kernel, by decide +kernel⟩
theorem d_is_integer {P : Program} {w : World} {K : PySem.W.Frag} {mg : Str → Option Value} {base : Heap} (r : Raw K mg (Str.ofString "is_integer") s_is_integer) (T : Top mg) : Df P w K mg base 1 (Str.ofString "is_integer") s_is_integer [(Str.ofString "value")] wf_is_integer :=
  have nd := sc_is_integer.nd
  df_of r sc_is_integer (fun _ _ _ _ _ _ us hl => match us, hl with | [_], _ => rfl) h_is_integer (fun f cdv A outer s H E W C =>
  (dss_one (ds_ret (de_and (de_callB call_isi cd_isi (by rfl) T.n_isinstance (by decide +kernel) (da_cons (de_var 0) (da_cons (de_bty (by rfl) T.n_int (by decide +kernel)) da_nil))) (de_one (de_not (de_callB call_isi cd_isi (by rfl) T.n_isinstance (by decide +kernel) (da_cons (de_var 0) (da_cons (de_bty (by rfl) T.n_bool (by decide +kernel)) da_nil)))))))))
abbrev s_is_within : Stmt := top 6
theorem sc_is_within : FnScope [(Str.ofString "value"), (Str.ofString "least"), (Str.ofString "most")] [(Str.ofString "value"), (Str.ofString "least"), (Str.ofString "most")] (defScope s_is_within) := ⟨rfl, rfl, rfl, by decide +kernel, rfl, by decide +kernel, by decide +kernel⟩
theorem d_is_within {P : Program} {w : World} {K : PySem.W.Frag} {mg : Str → Option Value} {base : Heap} (r : Raw K mg (Str.ofString "is_within") s_is_within) (T : Top mg) (D_is_integer : Df P w K mg base 1 (Str.ofString "is_integer") s_is_integer [(Str.ofString "value")] wf_is_integer) : Df P w K mg base 2 (Str.ofString "is_within") s_is_within [(Str.ofString "value"), (Str.ofString "least"), (Str.ofString "most")] wf_is_within :=
  have nd := sc_is_within.nd
  df_of r sc_is_within (fun _ _ _ _ _ _ us hl => match us, hl with | [_, _, _], _ => rfl) h_is_within (fun f cdv A outer s H E W C =>
  (dss_one (ds_ret (de_and (de_callD C D_is_integer (by decide) (da_cons (de_var 0) da_nil)) (de_one (de_chain op_le op_le od_le od_le (de_var 1) (de_var 0) (de_var 2)))))))
abbrev s_check_number : Stmt := top 7
theorem sc_check_number : FnScope [(Str.ofString "value"), (Str.ofString "least"), (Str.ofString "most")] [(Str.ofString "value"), (Str.ofString "least"), (Str.ofString "most")] (defScope s_check_number) := ⟨rfl, rfl, rfl, by decide +kernel, rfl, by decide +kernel, by decide +kernel⟩
theorem d_check_number {P : Program} {w : World} {K : PySem.W.Frag} {mg : Str → Option Value} {base : Heap} (r : Raw K mg (Str.ofString "check_number") s_check_number) (T : Top mg) (D_is_within : Df P w K mg base 2 (Str.ofString "is_within") s_is_within [(Str.ofString "value"), (Str.ofString "least"), (Str.ofString "most")] wf_is_within) : Df P w K mg base 3 (Str.ofString "check_number") s_check_number [(Str.ofString "value"), (Str.ofString "least"), (Str.ofString "most")] wf_check_number :=
  have nd := sc_check_number.nd
  df_of r sc_check_number (fun _ _ _ _ _ _ us hl => match us, hl with | [_, _, _], _ => rfl) h_check_number (fun f cdv A outer s H E W C =>
  (dss_one (ds_if (dt_not (dt_val (de_callD C D_is_within (by decide) (da_cons (de_var 0) (da_cons (de_var 1) (da_cons (de_var 2) da_nil)))))) (dss_one ds_never) dss_nil)))
abbrev s_divisors_of : Stmt := top 10
theorem sc_divisors_of : FnScope [(Str.ofString "size"), (Str.ofString "small"), (Str.ofString "number"), (Str.ofString "found")] [(Str.ofString "size")] (defScope s_divisors_of) := ⟨rfl, rfl, rfl, by decide +kernel, rfl, by decide +kernel, by decide +kernel⟩
theorem d_divisors_of {P : Program} {w : World} {K : PySem.W.Frag} {mg : Str → Option Value} {base : Heap} (r : Raw K mg (Str.ofString "divisors_of") s_divisors_of) (T : Top mg) : Df P w K mg base 1 (Str.ofString "divisors_of") s_divisors_of [(Str.ofString "size")] wf_divisors_of :=
  have nd := sc_divisors_of.nd
  df_of r sc_divisors_of (fun _ _ _ _ _ _ us hl => match us, hl with | [_], _ => rfl) h_divisors_of (fun f cdv A outer s H E W C =>
  (dss_cons (ds_set nd (de_lst da_nil))
  (dss_cons (ds_set nd de_int)
  (dss_cons (ds_while C.po (dt_cmp op_le od_le (de_op or_mul od_mul (de_var 2) (de_var 2)) (de_var 0) (nomark _)) (dss_cons (ds_if (dt_cmp (or_eqA C.u64) od_eq (de_op op_modN od_mod (de_var 0) (de_var 2)) de_int (nomark _)) (dss_one (ds_app 1 (de_var 2))) dss_nil)
  (dss_one (ds_set nd (de_op or_add od_add (de_var 2) de_int)))))
  (dss_one (ds_ret (de_op or_add od_add (de_var 1) (de_lc (own := [((Str.ofString "found"), 3)]) nd (di_seq (de_rev (de_var 1))) (blkOk_by (by kernel_rfl)) (fun _ _ _ _ _ => (tg_name nd)) (tin_name (by decide)) (fun _ _ _ _ _ => (dts_one (dt_cmp (or_neA (C.blk _ _ _ _ _ PassesOwn.never).u64) od_ne (de_op or_mul od_mul (de_var 3) (de_var 3)) (de_var 0) (nomark _)))) (fun _ _ _ _ _ => (de_op or_div od_div (de_var 0) (de_var 3)))))))))))
abbrev s_counted : Stmt := top 11
theorem sc_counted : FnScope [(Str.ofString "size"), (Str.ofString "first"), (Str.ofString "later"), (Str.ofString "divisors"), (Str.ofString "table"), (Str.ofString "whole"), (Str.ofString "behind"), (Str.ofString "factor")] [(Str.ofString "size"), (Str.ofString "first"), (Str.ofString "later")] (defScope s_counted) := ⟨rfl, rfl, rfl, by decide +kernel, rfl, by decide +kernel, by decide +kernel⟩
theorem d_counted {P : Program} {w : World} {K : PySem.W.Frag} {mg : Str → Option Value} {base : Heap} (r : Raw K mg (Str.ofString "counted") s_counted) (T : Top mg) (D_divisors_of : Df P w K mg base 1 (Str.ofString "divisors_of") s_divisors_of [(Str.ofString "size")] wf_divisors_of) : Df P w K mg base 2 (Str.ofString "counted") s_counted [(Str.ofString "size"), (Str.ofString "first"), (Str.ofString "later")] wf_counted :=
  have nd := sc_counted.nd
  df_of r sc_counted (fun _ _ _ _ _ _ us hl => match us, hl with | [_, _, _], _ => rfl) h_counted (fun f cdv A outer s H E W C =>
  (dss_cons (ds_set nd (de_callD C D_divisors_of (by decide) (da_cons (de_var 0) da_nil)))
  (dss_cons (ds_set nd (de_dic1 pe_int pe_int))
  (dss_cons (ds_for C.po (di_seq (de_sl (de_var 3) (do_some de_int) do_none)) (tg_name nd) (dss_cons (ds_setLc (own := [((Str.ofString "factor"), 7)]) nd (di_seq (de_sl (de_var 3) (do_some de_int) do_none)) (blkOk_by (by kernel_rfl)) (fun _ _ _ _ _ => (tg_name nd)) (tin_name (by decide)) (fun _ _ _ _ _ => (dts_one (dt_cmp (or_eqA (C.blk _ _ _ _ _ PassesOwn.never).u64) od_eq (de_op op_modN od_mod (de_var 5) (de_var 7)) de_int (nomark _)))) (fun _ _ _ _ _ => (de_dget 4 (C.blk _ _ _ _ _ PassesOwn.never).u1 (de_op or_div od_div (de_var 5) (de_var 7)))) (sw_true rfl rfl rfl (by decide +kernel)))
  (dss_one (ds_dput 4 C.u1 (de_op or_mul od_mul (de_var 2) (de_callB (cr_sum rfl) cd_sum (by rfl) T.n_sum (by decide +kernel) (da_cons (de_var 6) da_nil))) (de_var 5)))))
  (dss_cons (ds_if (dt_cmp (or_eqA C.u64) od_eq (de_var 0) de_int (nomark _)) (dss_one (ds_ret de_int)) dss_nil)
  (dss_one (ds_ret (de_op or_mul od_mul (de_var 1) (de_callB (cr_sum rfl) cd_sum (by rfl) T.n_sum (by decide +kernel) (da_cons (de_lc (own := [((Str.ofString "factor"), 7)]) nd (di_seq (de_sl (de_var 3) (do_some de_int) do_none)) (blkOk_by (by kernel_rfl)) (fun _ _ _ _ _ => (tg_name nd)) (tin_name (by decide)) (fun _ _ _ _ _ => dts_nil) (fun _ _ _ _ _ => (de_dget 4 (C.blk _ _ _ _ _ PassesOwn.never).u1 (de_op or_div od_div (de_var 0) (de_var 7))))) da_nil))))))))))
abbrev s_ladders : Stmt := top 12
theorem sc_ladders : FnScope [(Str.ofString "size")] [(Str.ofString "size")] (defScope s_ladders) := ⟨rfl, rfl, rfl, by decide +kernel, rfl, by decide +kernel, by decide +kernel⟩
theorem d_ladders {P : Program} {w : World} {K : PySem.W.Frag} {mg : Str → Option Value} {base : Heap} (r : Raw K mg (Str.ofString "ladders") s_ladders) (T : Top mg) (D_check_number : Df P w K mg base 3 (Str.ofString "check_number") s_check_number [(Str.ofString "value"), (Str.ofString "least"), (Str.ofString "most")] wf_check_number) (D_counted : Df P w K mg base 2 (Str.ofString "counted") s_counted [(Str.ofString "size"), (Str.ofString "first"), (Str.ofString "later")] wf_counted) : Df P w K mg base 4 (Str.ofString "ladders") s_ladders [(Str.ofString "size")] wf_ladders :=
  have nd := sc_ladders.nd
  df_of r sc_ladders (fun _ _ _ _ _ _ us hl => match us, hl with | [_], _ => rfl) h_ladders (fun f cdv A outer s H E W C =>
  (dss_cons (ds_expr (de_callD C D_check_number (by decide) (da_cons (de_var 0) (da_cons de_int (da_cons (de_gintE T.c_MOST_FILLED) da_nil)))))
  (dss_one (ds_ret (de_callD C D_counted (by decide) (da_cons (de_var 0) (da_cons de_int (da_cons de_int da_nil))))))))
abbrev s_fillings : Stmt := top 13
theorem sc_fillings : FnScope [(Str.ofString "size"), (Str.ofString "many")] [(Str.ofString "size"), (Str.ofString "many")] (defScope s_fillings) := ⟨rfl, rfl, rfl, by decide +kernel, rfl, by decide +kernel, by decide +kernel⟩
theorem d_fillings {P : Program} {w : World} {K : PySem.W.Frag} {mg : Str → Option Value} {base : Heap} (r : Raw K mg (Str.ofString "fillings") s_fillings) (T : Top mg) (D_check_number : Df P w K mg base 3 (Str.ofString "check_number") s_check_number [(Str.ofString "value"), (Str.ofString "least"), (Str.ofString "most")] wf_check_number) (D_counted : Df P w K mg base 2 (Str.ofString "counted") s_counted [(Str.ofString "size"), (Str.ofString "first"), (Str.ofString "later")] wf_counted) : Df P w K mg base 4 (Str.ofString "fillings") s_fillings [(Str.ofString "size"), (Str.ofString "many")] wf_fillings :=
  have nd := sc_fillings.nd
  df_of r sc_fillings (fun _ _ _ _ _ _ us hl => match us, hl with | [_, _], _ => rfl) h_fillings (fun f cdv A outer s H E W C =>
  (dss_cons (ds_expr (de_callD C D_check_number (by decide) (da_cons (de_var 0) (da_cons de_int (da_cons (de_gintE T.c_MOST_FILLED) da_nil)))))
  (dss_cons (ds_expr (de_callD C D_check_number (by decide) (da_cons (de_var 1) (da_cons de_int (da_cons (de_gintE T.c_MOST_LISTS) da_nil)))))
  (dss_one (ds_ret (de_callD C D_counted (by decide) (da_cons (de_var 0) (da_cons (de_var 1) (da_cons (de_op op_sub od_sub (de_var 1) de_int) da_nil)))))))))
abbrev s_law_cell : Stmt := top 15
theorem sc_law_cell : FnScope [(Str.ofString "_law_script"), (Str.ofString "_law_k"), (Str.ofString "_law_mixed"), (Str.ofString "_law_part")] [(Str.ofString "_law_script"), (Str.ofString "_law_k")] (defScope s_law_cell) := ⟨rfl, rfl, rfl, by decide +kernel, rfl, by decide +kernel, by decide +kernel⟩
theorem d_law_cell {P : Program} {w : World} {K : PySem.W.Frag} {mg : Str → Option Value} {base : Heap} (r : Raw K mg (Str.ofString "_law_cell") s_law_cell) (T : Top mg) : Df P w K mg base 1 (Str.ofString "_law_cell") s_law_cell [(Str.ofString "_law_script"), (Str.ofString "_law_k")] wf_law_cell :=
  have nd := sc_law_cell.nd
  df_of r sc_law_cell (fun _ _ _ _ _ _ us hl => match us, hl with | [_, _], _ => rfl) h_law_cell (fun f cdv A outer s H E W C =>
  (dss_cons (ds_if (dt_cmp op_lt od_lt (de_var 1) (de_callB call_len cd_len (by rfl) T.n_len (by decide +kernel) (da_cons (de_var 0) da_nil)) (nomark _)) (dss_one (ds_ret (de_ixV 0 (de_var 1)))) dss_nil)
  (dss_cons (ds_set nd (de_op op_modN od_mod (de_callTy call_int1 cd_int (by rfl) T.n_int (by decide +kernel) (da_cons (de_op or_mul od_mul de_int (de_op or_add od_add (de_op or_add od_add (de_op or_mul od_mul (de_var 1) (de_var 1)) (de_op or_mul od_mul de_int (de_var 1))) de_int)) da_nil)) de_int))
  (dss_cons (ds_for C.po (di_seq (de_sl (de_var 0) do_none (do_some de_int))) (tg_name nd) (dss_one (ds_set nd (de_op op_modN od_mod (de_callTy call_int1 cd_int (by rfl) T.n_int (by decide +kernel) (da_cons (de_op or_add od_add (de_op or_add od_add (de_op or_mul od_mul (de_var 2) de_int) (de_op or_mul od_mul (de_var 3) de_int)) de_int) da_nil)) de_int))))
  (dss_one (ds_ret (de_var 2)))))))
abbrev s_law_purse : Stmt := top 16
theorem sc_law_purse : FnScope [(Str.ofString "_law_cell_here")] [(Str.ofString "_law_cell_here")] (defScope s_law_purse) := ⟨rfl, rfl, rfl, by decide +kernel, rfl, by decide +kernel, by decide +kernel⟩
theorem d_law_purse {P : Program} {w : World} {K : PySem.W.Frag} {mg : Str → Option Value} {base : Heap} (r : Raw K mg (Str.ofString "_law_purse") s_law_purse) (T : Top mg) : Df P w K mg base 1 (Str.ofString "_law_purse") s_law_purse [(Str.ofString "_law_cell_here")] wf0_law_purse :=
  have nd := sc_law_purse.nd
  df_of r sc_law_purse (fun _ _ _ _ _ _ us hl => match us, hl with | [_], _ => rfl) h_law_purse (fun f cdv A outer s H E W C =>
  (dss_one (ds_ret (de_lst (da_cons (de_if (DW.pt (dw_or (dt_cmp op_lt od_lt (de_var 0) de_int (nomark _)) (dw_or1 (dt_cmp op_ge od_ge (de_var 0) (de_op op_pow od_pow de_int de_int) (nomark _))))) (de_callB call_abs cd_abs (by rfl) T.n_abs (by decide +kernel) (da_cons (de_var 0) da_nil)) de_int) (da_cons (de_op op_modN od_mod (de_callTy call_int1 cd_int (by rfl) T.n_int (by decide +kernel) (da_cons (de_op or_add od_add (de_op or_mul od_mul (de_var 0) de_int) de_int) da_nil)) de_int) (da_cons de_int da_nil)))))))
abbrev s_law_roll : Stmt := top 17
theorem sc_law_roll : FnScope [(Str.ofString "_law_purse_here"), (Str.ofString "_law_sides"), (Str.ofString "_law_figure"), (Str.ofString "_law_seed")] [(Str.ofString "_law_purse_here"), (Str.ofString "_law_sides")] (defScope s_law_roll) := ⟨rfl, rfl, rfl, by decide +kernel, rfl, by decide +kernel, by decide +kernel⟩
theorem d_law_roll {P : Program} {w : World} {K : PySem.W.Frag} {mg : Str → Option Value} {base : Heap} (r : Raw K mg (Str.ofString "_law_roll") s_law_roll) (T : Top mg) : Df P w K mg base 1 (Str.ofString "_law_roll") s_law_roll [(Str.ofString "_law_purse_here"), (Str.ofString "_law_sides")] wf_law_roll :=
  have nd := sc_law_roll.nd
  df_of r sc_law_roll (fun _ _ _ _ _ _ us hl => match us, hl with | [_, _], _ => rfl) h_law_roll (fun f cdv A outer s H E W C =>
  (dss_cons (ds_setIx 0 (de_op or_add od_add (de_ixV 0 de_int) de_int) de_int)
  (dss_cons (ds_if (dt_cmp op_gt od_gt (de_ixV 0 de_int) de_int (nomark _)) (dss_cons (ds_asgJ 0 2 (de_callB call_divmod cd_divmod (by rfl) T.n_divmod (by decide +kernel) (da_cons (de_ixV 0 de_int) (da_cons (de_var 1) da_nil))) pe_int nd)
  (dss_one (ds_ret (de_var 2)))) dss_nil)
  (dss_cons (ds_set nd (de_callTy call_int1 cd_int (by rfl) T.n_int (by decide +kernel) (da_cons (de_ixV 0 de_int) da_nil)))
  (dss_cons (ds_setIx 0 (de_op op_modN od_mod (de_callTy call_int1 cd_int (by rfl) T.n_int (by decide +kernel) (da_cons (de_op or_add od_add (de_op or_mul od_mul (de_var 3) (de_op or_add od_add (de_var 3) de_int)) (de_op or_mul od_mul de_int (de_ixV 0 de_int))) da_nil)) de_int) de_int)
  (dss_one (ds_ret (de_op op_modN od_mod (de_callTy call_int1 cd_int (by rfl) T.n_int (by decide +kernel) (da_cons (de_op or_div od_div (de_ixV 0 de_int) de_int) da_nil)) (de_var 1)))))))))
abbrev s_law_pick : Stmt := top 18
theorem sc_law_pick : FnScope [(Str.ofString "_law_purse_here"), (Str.ofString "_law_some")] [(Str.ofString "_law_purse_here"), (Str.ofString "_law_some")] (defScope s_law_pick) := ⟨rfl, rfl, rfl, by decide +kernel, rfl, by decide +kernel, by decide +kernel⟩
theorem d_law_pick {P : Program} {w : World} {K : PySem.W.Frag} {mg : Str → Option Value} {base : Heap} (r : Raw K mg (Str.ofString "_law_pick") s_law_pick) (T : Top mg) (D_law_roll : Df P w K mg base 1 (Str.ofString "_law_roll") s_law_roll [(Str.ofString "_law_purse_here"), (Str.ofString "_law_sides")] wf_law_roll) : Df P w K mg base 2 (Str.ofString "_law_pick") s_law_pick [(Str.ofString "_law_purse_here"), (Str.ofString "_law_some")] wf_law_pick :=
  have nd := sc_law_pick.nd
  df_of r sc_law_pick (fun _ _ _ _ _ _ us hl => match us, hl with | [_, _], _ => rfl) h_law_pick (fun f cdv A outer s H E W C =>
  (dss_one (ds_ret (de_ixV 1 (de_callD C D_law_roll (by decide) (da_cons (de_var 0) (da_cons (de_callB call_len cd_len (by rfl) T.n_len (by decide +kernel) (da_cons (de_var 1) da_nil)) da_nil)))))))
abbrev s_law_factors : Stmt := top 19
theorem sc_law_factors : FnScope [(Str.ofString "_law_size_here"), (Str.ofString "_law_found"), (Str.ofString "_law_line_here"), (Str.ofString "_law_at"), (Str.ofString "_law_row"), (Str.ofString "_law_left"), (Str.ofString "_law_by")] [(Str.ofString "_law_size_here")] (defScope s_law_factors) := ⟨rfl, rfl, rfl, by decide +kernel, rfl, by decide +kernel, by decide +kernel⟩
theorem d_law_factors {P : Program} {w : World} {K : PySem.W.Frag} {mg : Str → Option Value} {base : Heap} (r : Raw K mg (Str.ofString "_law_factors") s_law_factors) (T : Top mg) : Df P w K mg base 1 (Str.ofString "_law_factors") s_law_factors [(Str.ofString "_law_size_here")] wf_law_factors :=
  have nd := sc_law_factors.nd
  df_of r sc_law_factors (fun _ _ _ _ _ _ us hl => match us, hl with | [_], _ => rfl) h_law_factors (fun f cdv A outer s H E W C =>
  (dss_cons (ds_par3 nd (de_lst da_nil) (de_lst (da_cons (de_tup (da_cons (de_tup da_nil) (da_cons (de_var 0) da_nil))) da_nil)) de_int)
  (dss_cons (ds_while C.po (dt_cmp op_lt od_lt (de_var 3) (de_lenV 2 (by rfl) T.n_len) (nomark _)) (dss_cons (ds_asgN (de_ixV 2 (de_var 3)) (tg_tup (pgs_nm nd (pgs_nm nd pgs_nm0))))
  (dss_cons (ds_if (dt_cmp (or_eqA C.u64) od_eq (de_var 5) de_int (nomark _)) (dss_one (ds_app 1 (de_var 4))) dss_nil)
  (dss_cons (ds_for C.po (di_seq (de_lc (own := [((Str.ofString "_law_by"), 6)]) nd (di_range2 (da_cons de_int (da_cons (de_op or_add od_add (de_var 5) de_int) da_nil)) (by rfl) T.n_range) (blkOk_by (by kernel_rfl)) (fun _ _ _ _ _ => (tg_name nd)) (tin_name (by decide)) (fun _ _ _ _ _ => (dts_one (dt_cmp (or_eqA (C.blk _ _ _ _ _ PassesOwn.never).u64) od_eq (de_op op_modN od_mod (de_callTy call_int1 cd_int (by rfl) T.n_int (by decide +kernel) (da_cons (de_var 5) da_nil)) (de_var 6)) de_int (nomark _)))) (fun _ _ _ _ _ => (de_var 6)))) (tg_name nd) (dss_one (ds_app 2 (de_tup (da_cons (de_op or_add od_add (de_var 4) (de_tup (da_cons (de_var 6) da_nil))) (da_cons (de_op or_div od_div (de_var 5) (de_var 6)) da_nil))))))
  (dss_one (ds_set nd (de_op or_add od_add (de_var 3) de_int)))))))
  (dss_one (ds_ret (de_var 1))))))
abbrev s_law_sum : Stmt := top 22
theorem sc_law_sum : FnScope [(Str.ofString "_law_row"), (Str.ofString "_law_found"), (Str.ofString "_law_each")] [(Str.ofString "_law_row")] (defScope s_law_sum) := ⟨rfl, rfl, rfl, by decide +kernel, rfl, by decide +kernel, by decide +kernel⟩
theorem d_law_sum {P : Program} {w : World} {K : PySem.W.Frag} {mg : Str → Option Value} {base : Heap} (r : Raw K mg (Str.ofString "_law_sum") s_law_sum) (T : Top mg) : Df P w K mg base 1 (Str.ofString "_law_sum") s_law_sum [(Str.ofString "_law_row")] wf_law_sum :=
  have nd := sc_law_sum.nd
  df_of r sc_law_sum (fun _ _ _ _ _ _ us hl => match us, hl with | [_], _ => rfl) h_law_sum (fun f cdv A outer s H E W C =>
  (dss_cons (ds_set nd de_int)
  (dss_cons (ds_for C.po (di_seq (de_var 0)) (tg_name nd) (dss_one (ds_set nd (de_op or_add od_add (de_var 1) (de_var 2)))))
  (dss_one (ds_ret (de_var 1))))))
abbrev s_law_case_right : Stmt := top 23
theorem sc_law_case_right : FnScope [(Str.ofString "_law_purse_here"), (Str.ofString "_law_turn"), (Str.ofString "_law_size_here"), (Str.ofString "_law_many_here"), (Str.ofString "_law_due"), (Str.ofString "_law_row"), (Str.ofString "_law_found"), (Str.ofString "_law_by"), (Str.ofString "_law_great"), (Str.ofString "_law_below"), (Str.ofString "_law_parts_here"), (Str.ofString "_law_some")] [(Str.ofString "_law_purse_here")] (defScope s_law_case_right) := ⟨rfl, rfl, rfl, by decide +kernel, rfl, by decide +kernel, by decide +kernel⟩
theorem d_law_case_right {P : Program} {w : World} {K : PySem.W.Frag} {mg : Str → Option Value} {base : Heap} (r : Raw K mg (Str.ofString "_law_case_right") s_law_case_right) (T : Top mg) (D_law_factors : Df P w K mg base 1 (Str.ofString "_law_factors") s_law_factors [(Str.ofString "_law_size_here")] wf_law_factors) (D_law_pick : Df P w K mg base 2 (Str.ofString "_law_pick") s_law_pick [(Str.ofString "_law_purse_here"), (Str.ofString "_law_some")] wf_law_pick) (D_law_roll : Df P w K mg base 1 (Str.ofString "_law_roll") s_law_roll [(Str.ofString "_law_purse_here"), (Str.ofString "_law_sides")] wf_law_roll) (D_law_sum : Df P w K mg base 1 (Str.ofString "_law_sum") s_law_sum [(Str.ofString "_law_row")] wf_law_sum) (D_fillings : Df P w K mg base 4 (Str.ofString "fillings") s_fillings [(Str.ofString "size"), (Str.ofString "many")] wf_fillings) (D_ladders : Df P w K mg base 4 (Str.ofString "ladders") s_ladders [(Str.ofString "size")] wf_ladders) : Df P w K mg base 5 (Str.ofString "_law_case_right") s_law_case_right [(Str.ofString "_law_purse_here")] wf_law_case_right :=
  have nd := sc_law_case_right.nd
  df_of r sc_law_case_right (fun _ _ _ _ _ _ us hl => match us, hl with | [_], _ => rfl) h_law_case_right (fun f cdv A outer s H E W C =>
  (dss_cons (ds_for C.po (di_range1 (da_cons de_int da_nil) (by rfl) T.n_range) (tg_name nd) (dss_cons (ds_parT nd (de_op or_add od_add de_int (de_callD C D_law_roll (by decide) (da_cons (de_var 0) (da_cons (de_callD C D_law_pick (by decide) (da_cons (de_var 0) (da_cons (de_lst (da_cons de_int (da_cons de_int (da_cons de_int da_nil)))) da_nil))) da_nil)))) (de_op or_add od_add de_int (de_callD C D_law_roll (by decide) (da_cons (de_var 0) (da_cons de_int da_nil)))) (pgs_nm nd (pgs_nm nd pgs_nm0)))
  (dss_cons (ds_set nd de_int)
  (dss_cons (ds_for C.po (di_seq (de_callD C D_law_factors (by decide) (da_cons (de_var 2) da_nil))) (tg_name nd) (dss_cons (ds_set nd (de_if (dt_cmp (or_eqA C.u64) od_eq (de_var 5) (de_tup da_nil) (nomark _)) de_int (de_var 3)))
  (dss_cons (ds_for C.po (di_seq (de_sl (de_var 5) (do_some de_int) do_none)) (tg_name nd) (dss_one (ds_set nd (de_op or_mul od_mul (de_var 6) (de_op op_sub od_sub (de_var 3) de_int)))))
  (dss_one (ds_set nd (de_op or_add od_add (de_var 4) (de_var 6)))))))
  (dss_cons (ds_if (dt_cmp (or_neA C.u64) od_ne (de_callB (cr_repr C.gd C.u64) cd_repr (by rfl) T.n_repr (by decide +kernel) (da_cons (de_lst (da_cons (de_callD C D_fillings (by decide) (da_cons (de_var 2) (da_cons (de_var 3) da_nil))) (da_cons (de_callK0 [1, 0] [(Str.ofString "many"), (Str.ofString "size")] C D_fillings (by decide) (dk_cons (de_var 3) (dk_cons (de_var 2) dk_nil)) (fun _ _ _ _ _ _ ws hk => match ws, hk with | [_, _], _ => rfl)) da_nil))) da_nil)) (de_callB (cr_repr C.gd C.u64) cd_repr (by rfl) T.n_repr (by decide +kernel) (da_cons (de_lst (da_cons (de_var 4) (da_cons (de_var 4) da_nil))) da_nil)) (nomark _)) (dss_one (ds_ret de_bl)) dss_nil)
  (dss_cons (ds_set nd (de_op or_add od_add de_int (de_callD C D_law_roll (by decide) (da_cons (de_var 0) (da_cons (de_callD C D_law_pick (by decide) (da_cons (de_var 0) (da_cons (de_lst (da_cons de_int (da_cons de_int da_nil))) da_nil))) da_nil)))))
  (dss_cons (ds_if (DW.pt (dw_or (dt_cmp (or_neA C.u64) od_ne (de_callD C D_fillings (by decide) (da_cons (de_var 8) (da_cons de_int da_nil))) de_int (nomark _)) (dw_or1 (dt_cmp (or_neA C.u64) od_ne (de_callD C D_fillings (by decide) (da_cons (de_var 8) (da_cons de_int da_nil))) (de_if (dt_cmp op_gt od_gt (de_var 8) de_int (nomark _)) (de_op or_mul od_mul de_int (de_callD C D_ladders (by decide) (da_cons (de_var 8) da_nil))) de_int) (nomark _))))) (dss_one (ds_ret de_bl)) dss_nil)
  (dss_cons (ds_setLc (own := [((Str.ofString "_law_by"), 7)]) nd (di_range2 (da_cons de_int (da_cons de_int da_nil)) (by rfl) T.n_range) (blkOk_by (by kernel_rfl)) (fun _ _ _ _ _ => (tg_name nd)) (tin_name (by decide)) (fun _ _ _ _ _ => (dts_one (DW.pt (dw_and (dt_cmp (or_eqA (C.blk _ _ _ _ _ PassesOwn.never).u64) od_eq (de_op op_modN od_mod (de_callTy call_int1 cd_int (by rfl) T.n_int (by decide +kernel) (da_cons (de_var 8) da_nil)) (de_var 7)) de_int (nomark _)) (dw_and1 (dt_cmp op_lt od_lt (de_var 7) (de_var 8) (nomark _))))))) (fun _ _ _ _ _ => (de_var 7)) (sw_true rfl rfl rfl (by decide +kernel)))
  (dss_one (ds_if (DW.pt (dw_and (dt_cmp op_lt od_lt (de_var 8) de_int (nomark _)) (dw_and1 (dt_cmp op_gt od_gt (de_var 8) de_int (nomark _))))) (dss_cons (ds_setLc (own := [((Str.ofString "_law_by"), 7)]) nd (di_seq (de_var 9)) (blkOk_by (by kernel_rfl)) (fun _ _ _ _ _ => (tg_name nd)) (tin_name (by decide)) (fun _ _ _ _ _ => dts_nil) (fun _ _ _ _ _ => (de_if (dt_cmp (or_eqA (C.blk _ _ _ _ _ PassesOwn.never).u64) od_eq (de_var 7) de_int (nomark _)) de_int (de_op or_div od_div (de_op or_mul od_mul (de_callD (C.blk _ _ _ _ _ PassesOwn.never) D_fillings (by decide) (da_cons (de_var 7) (da_cons (de_var 3) da_nil))) (de_op op_sub od_sub (de_var 3) de_int)) (de_var 3)))) (sw_true rfl rfl rfl (by decide +kernel)))
  (dss_one (ds_if (dt_cmp (or_neA C.u64) od_ne (de_callD C D_fillings (by decide) (da_cons (de_var 8) (da_cons (de_var 3) da_nil))) (de_op or_mul od_mul (de_var 3) (de_callD C D_law_sum (by decide) (da_cons (de_var 10) da_nil))) (nomark _)) (dss_one (ds_ret de_bl)) dss_nil))) dss_nil))))))))))
  (dss_cons (ds_set nd (de_lst (da_cons (de_callD C D_fillings (by decide) (da_cons de_int (da_cons de_int da_nil))) (da_cons (de_callD C D_fillings (by decide) (da_cons de_int (da_cons de_int da_nil))) (da_cons (de_callD C D_fillings (by decide) (da_cons de_int (da_cons de_int da_nil))) (da_cons (de_callD C D_fillings (by decide) (da_cons de_int (da_cons de_int da_nil))) (da_cons (de_callD C D_fillings (by decide) (da_cons de_int (da_cons de_int da_nil))) (da_cons (de_callD C D_fillings (by decide) (da_cons de_int (da_cons de_int da_nil))) da_nil))))))))
  (dss_one (ds_ret (de_cmp (or_eqA C.u64) od_eq (de_var 11) (de_lst (da_cons de_int (da_cons de_int (da_cons de_int (da_cons de_int (da_cons de_int (da_cons (de_op or_add od_add (de_op or_add od_add de_int (de_op or_mul od_mul de_int de_int)) (de_op or_mul od_mul de_int de_int)) da_nil))))))) (nomark _)))))))
abbrev s_law : Stmt := top 24
theorem sc_law : FnScope [(Str.ofString "_law_script"), (Str.ofString "_law_k")] [(Str.ofString "_law_script")] (defScope s_law) := ⟨rfl, rfl, rfl, by decide +kernel, rfl, by decide +kernel, by decide +kernel⟩
theorem d_law {P : Program} {w : World} {K : PySem.W.Frag} {mg : Str → Option Value} {base : Heap} (r : Raw K mg (Str.ofString "law") s_law) (T : Top mg) (D_law_case_right : Df P w K mg base 5 (Str.ofString "_law_case_right") s_law_case_right [(Str.ofString "_law_purse_here")] wf_law_case_right) (D_law_cell : Df P w K mg base 1 (Str.ofString "_law_cell") s_law_cell [(Str.ofString "_law_script"), (Str.ofString "_law_k")] wf_law_cell) (D_law_purse : Df P w K mg base 1 (Str.ofString "_law_purse") s_law_purse [(Str.ofString "_law_cell_here")] wf_law_purse) : Df P w K mg base 6 (Str.ofString "law") s_law [(Str.ofString "_law_script")] wf_law :=
  have nd := sc_law.nd
  df_of r sc_law (fun _ _ _ _ _ _ us hl => match us, hl with | [_], _ => rfl) h_law (fun f cdv A outer s H E W C =>
  (dss_cons (ds_for C.po (di_range1 (da_cons (de_callB (call_max2 rfl) cd_max2 (by rfl) T.n_max (by decide +kernel) (da_cons de_int (da_cons (de_callB (call_min2 rfl) cd_min2 (by rfl) T.n_min (by decide +kernel) (da_cons (de_callB call_len cd_len (by rfl) T.n_len (by decide +kernel) (da_cons (de_var 0) da_nil)) (da_cons de_int da_nil))) da_nil))) da_nil) (by rfl) T.n_range) (tg_name nd) (dss_one (ds_if (dt_not (dt_val (de_callD C D_law_case_right (by decide) (da_cons (de_callD C D_law_purse (by decide) (da_cons (de_callD C D_law_cell (by decide) (da_cons (de_var 0) (da_cons (de_var 1) da_nil))) da_nil)) da_nil)))) (dss_one (ds_ret de_bl)) dss_nil)))
  (dss_one (ds_ret de_bl))))
theorem raws_ok {l : PySem.W.OpenLaw} {w : World} {K : PySem.W.Frag} {h : Heap} {mg : Str → Option Value} {fa : Addr} (X : K.In h) (G : h.Ns mainGlobals mg) (hfa : mg "law" = some (.ref fa)) (T : Top mg)
    (r_is_integer : Raw K mg (Str.ofString "is_integer") s_is_integer)
    (r_is_within : Raw K mg (Str.ofString "is_within") s_is_within)
    (r_check_number : Raw K mg (Str.ofString "check_number") s_check_number)
    (r_divisors_of : Raw K mg (Str.ofString "divisors_of") s_divisors_of)
    (r_counted : Raw K mg (Str.ofString "counted") s_counted)
    (r_ladders : Raw K mg (Str.ofString "ladders") s_ladders)
    (r_fillings : Raw K mg (Str.ofString "fillings") s_fillings)
    (r_law_cell : Raw K mg (Str.ofString "_law_cell") s_law_cell)
    (r_law_purse : Raw K mg (Str.ofString "_law_purse") s_law_purse)
    (r_law_roll : Raw K mg (Str.ofString "_law_roll") s_law_roll)
    (r_law_pick : Raw K mg (Str.ofString "_law_pick") s_law_pick)
    (r_law_factors : Raw K mg (Str.ofString "_law_factors") s_law_factors)
    (r_law_sum : Raw K mg (Str.ofString "_law_sum") s_law_sum)
    (r_law_case_right : Raw K mg (Str.ofString "_law_case_right") s_law_case_right)
    (r_law : Raw K mg (Str.ofString "law") s_law)
    : ∃ fd : FuncData, (∀ (s : Shared) (u : Value), BindsTo s fd ⟨[u], []⟩ [((Str.ofString "_law_script"), u)]) ∧ ∀ base : Heap, K.In base → base.Ns mainGlobals mg → FnG l.prog w K mg base 6 fa fd [(Str.ofString "_law_script")] wf_law := by
  refine end_of X G hfa r_law (fun _ _ _ _ _ _ _ _ => .of_eq rfl) fun base => ?_
  have D_is_integer : Df l.prog w K mg base 1 (Str.ofString "is_integer") s_is_integer [(Str.ofString "value")] wf_is_integer := d_is_integer r_is_integer T
  have D_is_within : Df l.prog w K mg base 2 (Str.ofString "is_within") s_is_within [(Str.ofString "value"), (Str.ofString "least"), (Str.ofString "most")] wf_is_within := d_is_within r_is_within T D_is_integer
  have D_check_number : Df l.prog w K mg base 3 (Str.ofString "check_number") s_check_number [(Str.ofString "value"), (Str.ofString "least"), (Str.ofString "most")] wf_check_number := d_check_number r_check_number T D_is_within
  have D_divisors_of : Df l.prog w K mg base 1 (Str.ofString "divisors_of") s_divisors_of [(Str.ofString "size")] wf_divisors_of := d_divisors_of r_divisors_of T
  have D_counted : Df l.prog w K mg base 2 (Str.ofString "counted") s_counted [(Str.ofString "size"), (Str.ofString "first"), (Str.ofString "later")] wf_counted := d_counted r_counted T D_divisors_of
  have D_ladders : Df l.prog w K mg base 4 (Str.ofString "ladders") s_ladders [(Str.ofString "size")] wf_ladders := d_ladders r_ladders T D_check_number D_counted
  have D_fillings : Df l.prog w K mg base 4 (Str.ofString "fillings") s_fillings [(Str.ofString "size"), (Str.ofString "many")] wf_fillings := d_fillings r_fillings T D_check_number D_counted
  have D_law_cell : Df l.prog w K mg base 1 (Str.ofString "_law_cell") s_law_cell [(Str.ofString "_law_script"), (Str.ofString "_law_k")] wf_law_cell := d_law_cell r_law_cell T
  have D_law_purse : Df l.prog w K mg base 1 (Str.ofString "_law_purse") s_law_purse [(Str.ofString "_law_cell_here")] wf_law_purse := (d_law_purse r_law_purse T).jar j_law_purse
  have D_law_roll : Df l.prog w K mg base 1 (Str.ofString "_law_roll") s_law_roll [(Str.ofString "_law_purse_here"), (Str.ofString "_law_sides")] wf_law_roll := d_law_roll r_law_roll T
  have D_law_pick : Df l.prog w K mg base 2 (Str.ofString "_law_pick") s_law_pick [(Str.ofString "_law_purse_here"), (Str.ofString "_law_some")] wf_law_pick := d_law_pick r_law_pick T D_law_roll
  have D_law_factors : Df l.prog w K mg base 1 (Str.ofString "_law_factors") s_law_factors [(Str.ofString "_law_size_here")] wf_law_factors := d_law_factors r_law_factors T
  have D_law_sum : Df l.prog w K mg base 1 (Str.ofString "_law_sum") s_law_sum [(Str.ofString "_law_row")] wf_law_sum := d_law_sum r_law_sum T
  have D_law_case_right : Df l.prog w K mg base 5 (Str.ofString "_law_case_right") s_law_case_right [(Str.ofString "_law_purse_here")] wf_law_case_right := d_law_case_right r_law_case_right T D_law_factors D_law_pick D_law_roll D_law_sum D_fillings D_ladders
  have D_law : Df l.prog w K mg base 6 (Str.ofString "law") s_law [(Str.ofString "_law_script")] wf_law := d_law r_law T D_law_case_right D_law_cell D_law_purse
  exact D_law
theorem law_true : ∀ ns : List Int, ns.length ≤ 63 → wf_law (fun _ => False) [.rls (ns.map .int)] fun s => s = .d (.bl true) := fun ns _ => ⟨ns, rfl, rfl⟩
end Law
open PySem PySem.W PyProof.Rows
set_option maxRecDepth 100000 in
set_option maxHeartbeats 0 in
theorem PySem.Challenge.cw_onesums_k41_whole_fillings_counted_holds : PySem.Challenge.rw_onesums_k41_whole_fillings_counted.Holds := by
  w_on; o_law; k_head; (case hw => w_witness2)
  k_fill
  refine DL.walk_g (l := PySem.Challenge.rw_onesums_k41_whole_fillings_counted) (k := 6) (wf := Law.wf_law) (x := Str.ofString "_law_script") rfl (by decide) rfl ⟨rfl, by decide, by decide⟩ (fun w h Y => PySem.W.kIn_of Y) ?F Law.law_true
  case F =>
    intro w mg fa h KX G hmg
    have T : Law.Top mg := by
      constructor
      · refine' PySem.W.mg_none_of KX G ?z; (case z => k_is)
      · refine' PySem.W.mg_none_of KX G ?z; (case z => k_is)
      · refine' PySem.W.mg_none_of KX G ?z; (case z => k_is)
      · refine' PySem.W.mg_none_of KX G ?z; (case z => k_is)
      · refine' PySem.W.mg_none_of KX G ?z; (case z => k_is)
      · refine' PySem.W.mg_none_of KX G ?z; (case z => k_is)
      · refine' PySem.W.mg_none_of KX G ?z; (case z => k_is)
      · refine' PySem.W.mg_none_of KX G ?z; (case z => k_is)
      · refine' PySem.W.mg_none_of KX G ?z; (case z => k_is)
      · refine' PySem.W.mg_none_of KX G ?z; (case z => k_is)
      · refine' PySem.W.mg_none_of KX G ?z; (case z => k_is)
      · refine' PySem.W.mg_none_of KX G ?z; (case z => k_is)
      · refine' DL.gint_mk KX G ?z; (case z => k_is)
      · refine' DL.gint_mk KX G ?z; (case z => k_is)
    refine' Law.raws_ok KX G hmg T ?r_is_integer ?r_is_within ?r_check_number ?r_divisors_of ?r_counted ?r_ladders ?r_fillings ?r_law_cell ?r_law_purse ?r_law_roll ?r_law_pick ?r_law_factors ?r_law_sum ?r_law_case_right ?r_law
    case r_is_integer =>
      refine' DL.raw_mk KX G ?a ?l ?c ?k; (case a => k_is); (case l => k_is); (case c => k_is); (case k => k_is)
    case r_is_within =>
      refine' DL.raw_mk KX G ?a ?l ?c ?k; (case a => k_is); (case l => k_is); (case c => k_is); (case k => k_is)
    case r_check_number =>
      refine' DL.raw_mk KX G ?a ?l ?c ?k; (case a => k_is); (case l => k_is); (case c => k_is); (case k => k_is)
    case r_divisors_of =>
      refine' DL.raw_mk KX G ?a ?l ?c ?k; (case a => k_is); (case l => k_is); (case c => k_is); (case k => k_is)
    case r_counted =>
      refine' DL.raw_mk KX G ?a ?l ?c ?k; (case a => k_is); (case l => k_is); (case c => k_is); (case k => k_is)
    case r_ladders =>
      refine' DL.raw_mk KX G ?a ?l ?c ?k; (case a => k_is); (case l => k_is); (case c => k_is); (case k => k_is)
    case r_fillings =>
      refine' DL.raw_mk KX G ?a ?l ?c ?k; (case a => k_is); (case l => k_is); (case c => k_is); (case k => k_is)
    case r_law_cell =>
      refine' DL.raw_mk KX G ?a ?l ?c ?k; (case a => k_is); (case l => k_is); (case c => k_is); (case k => k_is)
    case r_law_purse =>
      refine' DL.raw_mk KX G ?a ?l ?c ?k; (case a => k_is); (case l => k_is); (case c => k_is); (case k => k_is)
    case r_law_roll =>
      refine' DL.raw_mk KX G ?a ?l ?c ?k; (case a => k_is); (case l => k_is); (case c => k_is); (case k => k_is)
    case r_law_pick =>
      refine' DL.raw_mk KX G ?a ?l ?c ?k; (case a => k_is); (case l => k_is); (case c => k_is); (case k => k_is)
    case r_law_factors =>
      refine' DL.raw_mk KX G ?a ?l ?c ?k; (case a => k_is); (case l => k_is); (case c => k_is); (case k => k_is)
    case r_law_sum =>
      refine' DL.raw_mk KX G ?a ?l ?c ?k; (case a => k_is); (case l => k_is); (case c => k_is); (case k => k_is)
    case r_law_case_right =>
      refine' DL.raw_mk KX G ?a ?l ?c ?k; (case a => k_is); (case l => k_is); (case c => k_is); (case k => k_is)
    case r_law =>
      refine' DL.raw_mk KX G ?a ?l ?c ?k; (case a => k_is); (case l => k_is); (case c => k_is); (case k => k_is)
