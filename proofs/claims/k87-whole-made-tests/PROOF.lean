import PyProof.Rows.All
import Wide.All
import OpenK.AllK
import Wide.FinOn
import HandS.ForMost
import HandS.ForExc
import HandS.Lambda
import HandS.TryMany
import HandS.Conv
import HandS.Wide
import HandS.WideMore
import HandS.WideBits
import HandS.Gcd
import HandS.Zip
import HandS.IsInst
import HandS.TupAny
import HandS.TupMul
import HandS.EndTab
import HandS.Deep
import KE.KTupSum
import HandS.SetKeys
import HandS.SetFor
import HandS.WordsDict
import KE.OsArith
import PySem.Challenge.RW_hardbits_k87_whole_made_tests
set_option Elab.async false
set_option linter.all false
set_option maxRecDepth 100000
set_option maxHeartbeats 2000000
/-! DE: an engine over the hand layer. Programs over immutable data are total Lean functions; mutable lists live in slots, owned. -/
namespace DE
open PySem PySem.Spec PyProof.Rows L2

abbrev D := PyData
/-- what a slot holds: nothing, a datum, an owned mutable (io: a parameter that the caller owns) with its content -/
inductive W where
  | un
  | d (x : D)
  | own (io : Bool) (c : D)
  | scr (ns : List Int)
abbrev Sl := List W
/-- an exception: its class by number, its argument -/
structure Xc where
  c : Nat
  arg : Option D
inductive R (α : Type) where
  | ok (a : α) (sl : Sl)
  | exc (x : Xc)
  | stuck
inductive RS where
  | nx (sl : Sl)
  | rt (x : D) (sl : Sl)
  | bk (sl : Sl)
  | ct (sl : Sl)
  | exc (x : Xc)
  | stuck
abbrev Ex := Sl → R D
abbrev Exs := Sl → R (List D)
abbrev Tx := Sl → R Bool
abbrev Sx := Sl → RS
@[reducible] def R.bind {α β : Type} (r : R α) (f : α → Sl → R β) : R β := match r with
  | .ok a sl => f a sl
  | .exc x => .exc x
  | .stuck => .stuck
@[reducible] def R.bindS {α : Type} (r : R α) (f : α → Sl → RS) : RS := match r with
  | .ok a sl => f a sl
  | .exc x => .exc x
  | .stuck => .stuck
@[reducible] def RS.seq (r : RS) (f : Sl → RS) : RS := match r with
  | .nx sl => f sl
  | .rt x sl => .rt x sl
  | .bk sl => .bk sl
  | .ct sl => .ct sl
  | .exc x => .exc x
  | .stuck => .stuck
@[reducible] def optR {α : Type} (o : Option α) (sl : Sl) : R α := match o with
  | some a => .ok a sl
  | none => .stuck
/-- a call's result: the value, the contents of the io arguments behind it -/
inductive FR where
  | ok (x : D) (outs : Sl)
  | exc (x : Xc)
  | stuck
abbrev Fn := Sl → FR

/-! ### relations -/
def kD : Key → D
  | .inl i => .int i
  | .inr x => .str x
/-- a tuple that stands: tracked and not owned, or written -/
def TupAt (K : PySem.W.Frag) (M : Addr → Prop) (H : Hp) (a : Addr) (vs : List V) : Prop := (L2.Rd H a (.tup vs) ∧ ¬ M a) ∨
  ∃ (o : Obj) (its : Array Value) (n : Nat), K.lookup a = some o ∧ o.cls = .type "tuple" ∧ o.data = .seq its n ∧ its.size ≤ sizeLine ∧ Vals vs its.toList
theorem TupAt.sq {K : PySem.W.Frag} {M : Addr → Prop} {H : Hp} {a : Addr} {vs : List V} (h : TupAt K M H a vs) : SqT K H a vs := h.elim (fun z => .inl z.1) .inr
/-- the script -/
def ScrAt (K : PySem.W.Frag) (M : Addr → Prop) (H : Hp) (a : Addr) (vs : List V) : Prop := (L2.Rd H a (.lst vs) ∧ ¬ M a) ∨
  ∃ (o : Obj) (its : Array Value) (n : Nat), K.lookup a = some o ∧ o.cls = .type "list" ∧ o.dict = none ∧ o.data = .seq its n ∧ its.size ≤ sizeLine ∧ Vals vs its.toList
theorem ScrAt.sq {K : PySem.W.Frag} {M : Addr → Prop} {H : Hp} {a : Addr} {vs : List V} (h : ScrAt K M H a vs) : SqL K H a vs := h.elim (fun z => .inl z.1) .inr
mutual
inductive DR (K : PySem.W.Frag) (M : Addr → Prop) (H : Hp) : D → V → Prop
  | non : DR K M H .none .non
  | bl (b : Bool) : DR K M H (.bool b) (.bl b)
  | int (i : Int) : DR K M H (.int i) (.int i)
  | str (x : Str) : DR K M H (.str x) (.str x)
  | tup {a : Addr} {ds : List D} {vs : List V} : TupAt K M H a vs → DRs K M H ds vs → DR K M H (.tuple ds) (.ref a)
  | lst {a : Addr} {ds : List D} {vs : List V} : H a = some (.lst vs) → ¬ M a → DRs K M H ds vs → DR K M H (.list ds) (.ref a)
  | dct {a : Addr} {ks : List Key} {xs : List D} {vs : List V} {m : List (D × D)} : m = (ks.map kD).zip xs → ks.length = vs.length → H a = some (.dK (ks.zip vs)) → ¬ M a → DRs K M H xs vs → DR K M H (.dict m) (.ref a)
inductive DRs (K : PySem.W.Frag) (M : Addr → Prop) (H : Hp) : List D → List V → Prop
  | nil : DRs K M H [] []
  | cons {d : D} {v : V} {ds : List D} {vs : List V} : DR K M H d v → DRs K M H ds vs → DRs K M H (d :: ds) (v :: vs)
end
/-- a thing that is no table -/
def Fx (o : HO) : Prop := ∀ ps, o ≠ .tbl ps
/-- from (M, H) to (M', H'): what is not owned stands, and is not owned later -/
def Step (M : Addr → Prop) (H : Hp) (M' : Addr → Prop) (H' : Hp) : Prop := ∀ a o, ¬ M a → H a = some o → Fx o → ¬ M' a ∧ H' a = some o
theorem Step.refl (M : Addr → Prop) (H : Hp) : Step M H M H := fun _ _ h e _ => ⟨h, e⟩
theorem Step.trans {M M1 M2 : Addr → Prop} {H H1 H2 : Hp} (s : Step M H M1 H1) (t : Step M1 H1 M2 H2) : Step M H M2 H2 := fun a o h e f =>
  let ⟨h1, e1⟩ := s a o h e f
  t a o h1 e1 f
theorem fx_lst {xs : List V} : Fx (.lst xs) := fun _ z => nomatch z
theorem fx_tup {xs : List V} : Fx (.tup xs) := fun _ z => nomatch z
theorem fx_dK {xs : List (Key × V)} : Fx (.dK xs) := fun _ z => nomatch z
theorem fx_frz {o : Obj} {u : HO} : Fx (.frz o u) := fun _ z => nomatch z
theorem fx_xd {xs : List (Str × V)} : Fx (.xd xs) := fun _ z => nomatch z
section
variable {K : PySem.W.Frag} {M M' : Addr → Prop} {H H' : Hp}
theorem Step.rd (s : Step M H M' H') {a : Addr} {u : HO} (hu : Fx u) (h : L2.Rd H a u) (n : ¬ M a) : L2.Rd H' a u ∧ ¬ M' a := by
  rcases h with h | ⟨o, h⟩
  · exact ⟨.inl (s a _ n h hu).2, (s a _ n h hu).1⟩
  · exact ⟨.inr ⟨o, (s a _ n h fx_frz).2⟩, (s a _ n h fx_frz).1⟩
/-- what is written in the text is not owned: M speaks of tracked things -/
def Live (M : Addr → Prop) (H : Hp) : Prop := ∀ a, M a → ∃ o, H a = some o ∧ Fx o
theorem Step.tup (s : Step M H M' H') {a : Addr} {vs : List V} (h : TupAt K M H a vs) : TupAt K M' H' a vs := h.elim (fun z => .inl (s.rd fx_tup z.1 z.2)) .inr
theorem Step.scr (s : Step M H M' H') {a : Addr} {vs : List V} (h : ScrAt K M H a vs) : ScrAt K M' H' a vs := h.elim (fun z => .inl (s.rd fx_lst z.1 z.2)) .inr
mutual
theorem DR.step (s : Step M H M' H') : ∀ {d : D} {v : V}, DR K M H d v → DR K M' H' d v
  | _, _, .non => .non
  | _, _, .bl b => .bl b
  | _, _, .int i => .int i
  | _, _, .str x => .str x
  | _, _, .tup h r => .tup (s.tup h) (DRs.step s r)
  | _, _, .lst h n r => .lst (s _ _ n h fx_lst).2 (s _ _ n h fx_lst).1 (DRs.step s r)
  | _, _, .dct e l h n r => .dct e l (s _ _ n h fx_dK).2 (s _ _ n h fx_dK).1 (DRs.step s r)
theorem DRs.step (s : Step M H M' H') : ∀ {d : List D} {v : List V}, DRs K M H d v → DRs K M' H' d v
  | _, _, .nil => .nil
  | _, _, .cons h t => .cons (DR.step s h) (DRs.step s t)
end
theorem DRs.length : ∀ {ds : List D} {vs : List V}, DRs K M H ds vs → ds.length = vs.length
  | _, _, .nil => rfl
  | _, _, .cons _ t => by rw [List.length_cons, List.length_cons, DRs.length t]
theorem DRs.append : ∀ {ds es : List D} {vs us : List V}, DRs K M H ds vs → DRs K M H es us → DRs K M H (ds ++ es) (vs ++ us)
  | _, _, _, _, .nil, r => r
  | _, _, _, _, .cons h t, r => .cons h (DRs.append t r)
theorem DRs.get : ∀ {ds : List D} {vs : List V} {i : Nat} {d : D}, DRs K M H ds vs → ds[i]? = some d → ∃ v, vs[i]? = some v ∧ DR K M H d v
  | _, _, _, _, .nil, e => by simp at e
  | _, _, 0, _, .cons h _, e => by simp at e; subst e; exact ⟨_, rfl, h⟩
  | _, _, i + 1, d, .cons _ t, e => by
    obtain ⟨v, h1, h2⟩ := DRs.get (i := i) (d := d) t (by simpa using e)
    exact ⟨v, by simpa using h1, h2⟩
theorem DRs.getV : ∀ {ds : List D} {vs : List V} {i : Nat} {v : V}, DRs K M H ds vs → vs[i]? = some v → ∃ d, ds[i]? = some d ∧ DR K M H d v
  | _, _, _, _, .nil, e => by simp at e
  | _, _, 0, _, .cons h _, e => by simp at e; subst e; exact ⟨_, rfl, h⟩
  | _, _, i + 1, d, .cons _ t, e => by
    obtain ⟨v, h1, h2⟩ := DRs.getV (i := i) (v := d) t (by simpa using e)
    exact ⟨v, by simpa using h1, h2⟩
theorem DRs.take : ∀ {ds : List D} {vs : List V} (n : Nat), DRs K M H ds vs → DRs K M H (ds.take n) (vs.take n)
  | _, _, 0, _ => by rw [List.take_zero, List.take_zero]; exact .nil
  | _, _, n + 1, .nil => by rw [List.take_nil, List.take_nil]; exact .nil
  | _, _, n + 1, .cons h t => by rw [List.take_succ_cons, List.take_succ_cons]; exact .cons h (DRs.take n t)
theorem DRs.drop : ∀ {ds : List D} {vs : List V} (n : Nat), DRs K M H ds vs → DRs K M H (ds.drop n) (vs.drop n)
  | _, _, 0, r => r
  | _, _, n + 1, .nil => by rw [List.drop_nil, List.drop_nil]; exact .nil
  | _, _, n + 1, .cons h t => by rw [List.drop_succ_cons, List.drop_succ_cons]; exact DRs.drop n t
theorem DRs.set {d : D} {v : V} (r : DR K M H d v) : ∀ {ds : List D} {vs : List V} (i : Nat), DRs K M H ds vs → DRs K M H (ds.set i d) (vs.set i v)
  | _, _, _, .nil => .nil
  | _, _, 0, .cons _ t => .cons r t
  | _, _, i + 1, .cons h t => .cons h (DRs.set r i t)
theorem DRs.rev : ∀ {ds : List D} {vs : List V}, DRs K M H ds vs → DRs K M H ds.reverse vs.reverse
  | _, _, .nil => .nil
  | _, _, .cons h t => by rw [List.reverse_cons, List.reverse_cons]; exact (DRs.rev t).append (.cons h .nil)
theorem DRs.ints : ∀ (ns : List Int), DRs K M H (ns.map .int) (ns.map .int)
  | [] => .nil
  | n :: ns => .cons (.int n) (DRs.ints ns)
/-- the datum's own shape gives the value's -/
theorem DR.int_inv {i : Int} {v : V} (h : DR K M H (.int i) v) : v = .int i := by cases h; rfl
theorem DR.bl_inv {i : Bool} {v : V} (h : DR K M H (.bool i) v) : v = .bl i := by cases h; rfl
theorem DR.str_inv {i : Str} {v : V} (h : DR K M H (.str i) v) : v = .str i := by cases h; rfl
theorem DR.non_inv {v : V} (h : DR K M H .none v) : v = .non := by cases h; rfl
theorem DRs.ints_inv : ∀ {ns : List Int} {vs : List V}, DRs K M H (ns.map .int) vs → vs = ns.map .int
  | [], _, h => by cases h; rfl
  | n :: ns, _, h => by
    cases h with
    | cons h t => rw [DR.int_inv h, DRs.ints_inv t]; rfl
end

/-- what holds through a run of the law: the text, the code tables, the error classes and their fields -/
structure Gb where
  T : List (Addr × Str)
  CA : Nat → Addr
  fld : Nat → Str
/-- an activation's start: what was owned, the heap, the io parameters (slot, address) -/
structure Act where
  M0 : Addr → Prop
  H0 : Hp
  io : List (Nat × Addr)
def Act.P (A : Act) (a : Addr) : Prop := ∃ i, (i, a) ∈ A.io
/-- an owned mutable's content -/
def MR (K : PySem.W.Frag) (M : Addr → Prop) (H : Hp) (c : D) (a : Addr) : Prop :=
  (∃ ds vs, c = .list ds ∧ H a = some (.lst vs) ∧ DRs K M H ds vs) ∨
  (∃ (ks : List Key) (xs : List D) (vs : List V), c = .dict ((ks.map kD).zip xs) ∧ ks.length = vs.length ∧ H a = some (.dK (ks.zip vs)) ∧ DRs K M H xs vs)
theorem MR.there {K : PySem.W.Frag} {M : Addr → Prop} {H : Hp} {c : D} {a : Addr} (h : MR K M H c a) : ∃ o, H a = some o ∧ Fx o := by
  rcases h with ⟨ds, vs, _, e, _⟩ | ⟨ks, xs, vs, _, _, e, _⟩
  · exact ⟨_, e, fx_lst⟩
  · exact ⟨_, e, fx_dK⟩
theorem MR.step {K : PySem.W.Frag} {M M' : Addr → Prop} {H H' : Hp} {c : D} {a : Addr} (h : MR K M H c a) (s : Step M H M' H') (e : ∀ o, H a = some o → Fx o → H' a = some o) : MR K M' H' c a := by
  rcases h with ⟨ds, vs, e1, e2, r⟩ | ⟨ks, xs, vs, e1, e2, e3, r⟩
  · exact .inl ⟨ds, vs, e1, e _ e2 fx_lst, r.step s⟩
  · exact .inr ⟨ks, xs, vs, e1, e2, e _ e3 fx_dK, r.step s⟩
/-- what holds wherever an activation stands, and at its end -/
structure Out (K : PySem.W.Frag) (G : Gb) (A : Act) (M : Addr → Prop) (H : Hp) : Prop where
  live0 : Live A.M0 A.H0
  live : Live M H
  stp : Step A.M0 A.H0 M H
  oth : ∀ a o, A.M0 a → ¬ A.P a → A.H0 a = some o → Fx o → M a ∧ H a = some o
  tabs : LamX.Tabs G.T H
structure StR (K : PySem.W.Frag) (G : Gb) (A : Act) (M : Addr → Prop) (sl : Sl) (σ : L2.St) (H : Hp) : Prop where
  out : Out K G A M H
  len : sl.length = σ.length
  val : ∀ (i : Nat) (x : D), sl[i]? = some (.d x) → ∃ v, σ[i]? = some (some v) ∧ DR K M H x v
  scr : ∀ (i : Nat) (ns : List Int), sl[i]? = some (.scr ns) → ∃ a, σ[i]? = some (some (.ref a)) ∧ ScrAt K M H a (ns.map V.int)
  own : ∀ (i : Nat) (b : Bool) (c : D), sl[i]? = some (.own b c) → ∃ a, σ[i]? = some (some (.ref a)) ∧ MR K M H c a ∧ M a ∧ (A.M0 a → A.P a) ∧ (b = true → (i, a) ∈ A.io)
  apart : ∀ (i j : Nat) (a : Addr) (b : Bool) (c : D) (b' : Bool) (c' : D), i ≠ j → sl[i]? = some (.own b c) → sl[j]? = some (.own b' c') → σ[i]? = some (some (.ref a)) → σ[j]? = some (some (.ref a)) → False
  io : ∀ p ∈ A.io, ∃ c, sl[p.1]? = some (.own true c) ∧ σ[p.1]? = some (some (.ref p.2))
/-- an exception's object -/
def ExR (K : PySem.W.Frag) (G : Gb) (M : Addr → Prop) (H : Hp) (x : Xc) (cls : Value) (dd : Option Addr) : Prop :=
  cls = .ref (G.CA x.c) ∧ match x.arg with
    | none => True
    | some d => ∃ a v, dd = some a ∧ H a = some (.xd [(G.fld x.c, v)]) ∧ DR K M H d v
/-- what a result gives: Rel relates the mirror's value and the machine's -/
def Post {α β : Type} (K : PySem.W.Frag) (G : Gb) (A : Act) (Wx : WX) (Rel : (Addr → Prop) → Hp → α → β → Prop) (M : Addr → Prop) (H : Hp) (σ : L2.St) (r : R α) (Q : β → Hp → Prop) : Prop := match r with
  | .ok x sl' => ∀ v H' M', Step M H M' H' → StR K G A M' sl' σ H' → Rel M' H' x v → Q v H'
  | .exc x => ∀ cls dd H' M', Step M H M' H' → Out K G A M' H' → ExR K G M' H' x cls dd → Wx cls dd σ H'
  | .stuck => False
def tX {α β : Type} (K : PySem.W.Frag) (G : Gb) (A : Act) (Wx : WX) (Rel : (Addr → Prop) → Hp → α → β → Prop) (e : Sl → R α) : L2.St → Hp → (β → Hp → Prop) → Prop := fun σ H Q =>
  ∃ M sl, StR K G A M sl σ H ∧ Post K G A Wx Rel M H σ (e sl) Q
abbrev tE (K : PySem.W.Frag) (G : Gb) (A : Act) (Wx : WX) (e : Ex) : TE := tX K G A Wx (DR K) e
abbrev tT (K : PySem.W.Frag) (G : Gb) (A : Act) (Wx : WX) (e : Tx) : TT := tX K G A Wx (fun _ _ (x y : Bool) => x = y) e
abbrev tA (K : PySem.W.Frag) (G : Gb) (A : Act) (Wx : WX) (e : Exs) : TA := tX K G A Wx (DRs K) e
def PostS (K : PySem.W.Frag) (G : Gb) (A : Act) (Wx : WX) (M : Addr → Prop) (H : Hp) (r : RS) (E : Ends) : Prop := match r with
  | .nx sl' => ∀ σ' H' M', Step M H M' H' → StR K G A M' sl' σ' H' → E.nx σ' H'
  | .rt x sl' => ∀ v σ' H' M', Step M H M' H' → StR K G A M' sl' σ' H' → DR K M' H' x v → E.rt v H'
  | .bk sl' => ∀ σ' H' M', Step M H M' H' → StR K G A M' sl' σ' H' → E.bk σ' H'
  | .ct sl' => ∀ σ' H' M', Step M H M' H' → StR K G A M' sl' σ' H' → E.ct σ' H'
  | .exc x => ∀ cls dd σ' H' M', Step M H M' H' → Out K G A M' H' → ExR K G M' H' x cls dd → Wx cls dd σ' H'
  | .stuck => False
def tS (K : PySem.W.Frag) (G : Gb) (A : Act) (Wx : WX) (s : Sx) : TS := fun E σ H => ∃ M sl, StR K G A M sl σ H ∧ PostS K G A Wx M H (s sl) E
section
variable {K : PySem.W.Frag} {G : Gb} {A : Act} {Wx : WX} {M M' M1 : Addr → Prop} {sl : Sl} {σ : L2.St} {H H' H1 : Hp}
theorem Post.step {α β : Type} {Rel : (Addr → Prop) → Hp → α → β → Prop} {r : R α} {Q : β → Hp → Prop} (s : Step M H M1 H1) (p : Post K G A Wx Rel M H σ r Q) : Post K G A Wx Rel M1 H1 σ r Q := by
  cases r with
  | ok x sl' => exact fun v H' M' t S q => p v H' M' (s.trans t) S q
  | exc x => exact fun cls dd H' M' t S q => p cls dd H' M' (s.trans t) S q
  | stuck => exact p
theorem PostS.step {r : RS} {E : Ends} (s : Step M H M1 H1) (p : PostS K G A Wx M H r E) : PostS K G A Wx M1 H1 r E := by
  cases r with
  | nx sl' => exact fun σ' H' M' t S => p σ' H' M' (s.trans t) S
  | rt x sl' => exact fun v σ' H' M' t S q => p v σ' H' M' (s.trans t) S q
  | bk sl' => exact fun σ' H' M' t S => p σ' H' M' (s.trans t) S
  | ct sl' => exact fun σ' H' M' t S => p σ' H' M' (s.trans t) S
  | exc x => exact fun cls dd σ' H' M' t S q => p cls dd σ' H' M' (s.trans t) S q
  | stuck => exact p
/-- one part, then the rest -/
theorem tX.bind {α β γ δ : Type} {Rel : (Addr → Prop) → Hp → α → β → Prop} {Rel2 : (Addr → Prop) → Hp → γ → δ → Prop} {e : Sl → R α} {f : α → Sl → R γ} {Q : δ → Hp → Prop} {Q1 : β → Hp → Prop}
    (S : StR K G A M sl σ H) (h : Post K G A Wx Rel2 M H σ ((e sl).bind f) Q)
    (k : ∀ M1 x sl1 v H1, Step M H M1 H1 → StR K G A M1 sl1 σ H1 → Rel M1 H1 x v → Post K G A Wx Rel2 M1 H1 σ (f x sl1) Q → Q1 v H1) : tX K G A Wx Rel e σ H Q1 := by
  refine ⟨M, sl, S, ?_⟩
  cases he : e sl with
  | ok x sl1 =>
    rw [he] at h
    exact fun v H1 M1 s S1 r => k M1 x sl1 v H1 s S1 r (Post.step s h)
  | exc x =>
    rw [he] at h
    exact h
  | stuck =>
    rw [he] at h
    exact h
theorem tX.bindS {α β : Type} {Rel : (Addr → Prop) → Hp → α → β → Prop} {e : Sl → R α} {f : α → Sl → RS} {E : Ends} {Q1 : β → Hp → Prop}
    (S : StR K G A M sl σ H) (h : PostS K G A Wx M H ((e sl).bindS f) E)
    (k : ∀ M1 x sl1 v H1, Step M H M1 H1 → StR K G A M1 sl1 σ H1 → Rel M1 H1 x v → PostS K G A Wx M1 H1 (f x sl1) E → Q1 v H1) : tX K G A Wx Rel e σ H Q1 := by
  refine ⟨M, sl, S, ?_⟩
  cases he : e sl with
  | ok x sl1 =>
    rw [he] at h
    exact fun v H1 M1 s S1 r => k M1 x sl1 v H1 s S1 r (PostS.step s h)
  | exc x =>
    rw [he] at h
    exact fun cls dd H' M' t o q => h cls dd σ H' M' t o q
  | stuck =>
    rw [he] at h
    exact h
/-- a value is handed on -/
theorem Post.done {α β : Type} {Rel : (Addr → Prop) → Hp → α → β → Prop} {x : α} {v : β} {Q : β → Hp → Prop} (S : StR K G A M sl σ H) (h : Post K G A Wx Rel M H σ (.ok x sl) Q) (r : Rel M H x v) : Q v H := h v H M (Step.refl M H) S r
theorem upd_fresh {p : Addr} {o : HO} (hp : H p = none) : ∀ a u, H a = some u → upd H p o a = some u := fun a u e => by rw [upd_ne (ne_of_none e hp)]; exact e
theorem Step.fresh {p : Addr} {o : HO} (hp : H p = none) : Step M H M (upd H p o) := fun a u n e _ => ⟨n, upd_fresh hp a u e⟩
theorem Live.fresh {p : Addr} {o : HO} (hp : H p = none) (l : Live M H) : Live M (upd H p o) := fun a m => let ⟨u, e, f⟩ := l a m; ⟨u, upd_fresh hp a u e, f⟩
theorem Live.not (l : Live M H) {p : Addr} (hp : H p = none) : ¬ M p := fun m => by
  obtain ⟨u, e, _⟩ := l p m
  rw [hp] at e; cases e
theorem Out.fresh {p : Addr} {o : HO} (hp : H p = none) (h : Out K G A M H) : Out K G A M (upd H p o) :=
  ⟨h.live0, h.live.fresh hp, h.stp.trans (Step.fresh hp), fun a u m n e f => ⟨(h.oth a u m n e f).1, upd_fresh hp a u (h.oth a u m n e f).2⟩, h.tabs.ext (upd_fresh hp)⟩
/-- all that was stays: the state is a state still -/
theorem StR.keep (S : StR K G A M sl σ H) (k : ∀ a u, H a = some u → H' a = some u) : StR K G A M sl σ H' := by
  have st : Step M H M H' := fun a u n e _ => ⟨n, k a u e⟩
  have o := S.out
  refine ⟨⟨o.live0, fun a m => let ⟨u, e, f⟩ := o.live a m; ⟨u, k a u e, f⟩, o.stp.trans st, fun a u m n e f => ⟨(o.oth a u m n e f).1, k a u (o.oth a u m n e f).2⟩, o.tabs.ext k⟩, S.len, fun i x e => ?_, fun i ns e => ?_, fun i b c e => ?_, S.apart, S.io⟩
  · obtain ⟨v, h1, h2⟩ := S.val i x e
    exact ⟨v, h1, h2.step st⟩
  · obtain ⟨a, h1, h2⟩ := S.scr i ns e
    exact ⟨a, h1, st.scr h2⟩
  · obtain ⟨a, h1, h2, h3⟩ := S.own i b c e
    exact ⟨a, h1, h2.step st fun u e _ => k a u e, h3⟩
theorem StR.fresh {p : Addr} {o : HO} (hp : H p = none) (S : StR K G A M sl σ H) : StR K G A M sl σ (upd H p o) := S.keep (upd_fresh hp)
theorem DR.fresh {x : D} {v : V} {p : Addr} {o : HO} (hp : H p = none) (S : StR K G A M sl σ H) (r : DR K M H x v) : DR K M (upd H p o) x v := r.step (Step.fresh hp)
theorem DRs.fresh {x : List D} {v : List V} {p : Addr} {o : HO} (hp : H p = none) (S : StR K G A M sl σ H) (r : DRs K M H x v) : DRs K M (upd H p o) x v := r.step (Step.fresh hp)
/-- a new tuple, a new list that nobody will change -/
theorem StR.tup {p : Addr} {xs : List D} {vs : List V} (hp : H p = none) (S : StR K G A M sl σ H) (r : DRs K M H xs vs) : DR K M (upd H p (.tup vs)) (.tuple xs) (.ref p) :=
  .tup (.inl ⟨.of upd_same, S.out.live.not hp⟩) (r.fresh hp S)
theorem StR.lst {p : Addr} {xs : List D} {vs : List V} (hp : H p = none) (S : StR K G A M sl σ H) (r : DRs K M H xs vs) : DR K M (upd H p (.lst vs)) (.list xs) (.ref p) :=
  .lst upd_same (S.out.live.not hp) (r.fresh hp S)
theorem StR.dct {p : Addr} {ks : List Key} {xs : List D} {vs : List V} (hp : H p = none) (S : StR K G A M sl σ H) (hl : ks.length = vs.length) (r : DRs K M H xs vs) : DR K M (upd H p (.dK (ks.zip vs))) (.dict ((ks.map kD).zip xs)) (.ref p) :=
  .dct rfl hl upd_same (S.out.live.not hp) (r.fresh hp S)
end
end DE
namespace DE
open PySem PySem.Spec PyProof.Rows L2

/-! ### weakening -/
theorem PE.imp {X : Cx} {e : Expr} {t t' : TE} (h : PE X e t) (k : ∀ σ H Q, t' σ H Q → t σ H Q) : PE X e t' := ⟨fun pins s σ H Q I hw => h.run pins s σ H Q I (k σ H Q hw)⟩
theorem PT.imp {X : Cx} {e : Expr} {t t' : TT} (h : PT X e t) (k : ∀ σ H Q, t' σ H Q → t σ H Q) : PT X e t' := ⟨fun pins s σ H Q I hw => h.run pins s σ H Q I (k σ H Q hw)⟩
theorem PW.imp {X : Cx} {e : Expr} {t t' : TT} (h : PW X e t) (k : ∀ σ H Q, t' σ H Q → t σ H Q) : PW X e t' := ⟨fun wh pins s σ H Q I hw => h.run wh pins s σ H Q I (k σ H Q hw)⟩
theorem PA.imp {X : Cx} {e : List Expr} {t t' : TA} (h : PA X e t) (k : ∀ σ H Q, t' σ H Q → t σ H Q) : PA X e t' := ⟨fun p pins s σ H Q I hw => h.run p pins s σ H Q I (k σ H Q hw)⟩
theorem PS.imp {X : Cx} {e : Stmt} {t t' : TS} (h : PS X e t) (k : ∀ E σ H, t' E σ H → t E σ H) : PS X e t' := ⟨fun pins s σ H E I hw => h.run pins s σ H E I (k E σ H hw)⟩
theorem PSs.imp {X : Cx} {e : List Stmt} {t t' : TS} (h : PSs X e t) (k : ∀ E σ H, t' E σ H → t E σ H) : PSs X e t' := ⟨fun pins s σ H E I hw => h.run pins s σ H E I (k E σ H hw)⟩

/-! ### slots -/
def nth : Sl → Nat → W
  | [], _ => .un
  | w :: _, 0 => w
  | _ :: r, n + 1 => nth r n
theorem nth_get : ∀ {sl : Sl} {i : Nat}, nth sl i ≠ .un → sl[i]? = some (nth sl i)
  | [], _, h => absurd rfl h
  | _ :: _, 0, _ => rfl
  | _ :: r, n + 1, h => by
    have := nth_get (sl := r) (i := n) h
    show r[n]? = some (nth r n)
    exact this
theorem nth_d {sl : Sl} {i : Nat} {x : D} (h : nth sl i = .d x) : sl[i]? = some (.d x) := by rw [← h]; exact nth_get (by rw [h]; exact fun z => nomatch z)
theorem nth_own {sl : Sl} {i : Nat} {b : Bool} {c : D} (h : nth sl i = .own b c) : sl[i]? = some (.own b c) := by rw [← h]; exact nth_get (by rw [h]; exact fun z => nomatch z)
theorem get_set {sl : Sl} {i j : Nat} {w w' : W} (h : (sl.set i w)[j]? = some w') : (j = i ∧ w' = w) ∨ (j ≠ i ∧ sl[j]? = some w') := by
  by_cases e : j = i
  · subst e
    by_cases hl : j < sl.length
    · rw [List.getElem?_set_self hl] at h
      exact .inl ⟨rfl, (Option.some.inj h).symm⟩
    · rw [List.getElem?_eq_none (by rw [List.length_set]; omega)] at h
      cases h
  · rw [List.getElem?_set_ne (Ne.symm e)] at h
    exact .inr ⟨e, h⟩
section
variable {K : PySem.W.Frag} {G : Gb} {A : Act} {Wx : WX} {M M' M1 : Addr → Prop} {sl : Sl} {σ : L2.St} {H H' H1 : Hp}
/-- an owned thing is let go: nobody will change it -/
theorem StR.freeze (S : StR K G A M sl σ H) {i : Nat} {c : D} (h : nth sl i = .own false c) :
    ∃ a M', σ[i]? = some (some (.ref a)) ∧ Step M H M' H ∧ StR K G A M' (sl.set i (.d c)) σ H ∧ DR K M' H c (.ref a) := by
  have hi := nth_own h
  obtain ⟨a, e1, m, ma, fr, _⟩ := S.own i false c hi
  have nP : ¬ A.P a := fun ⟨j, hj⟩ => by
    obtain ⟨c', e2, e3⟩ := S.io (j, a) hj
    by_cases z : i = j
    · subst z
      rw [hi] at e2; cases e2
    · exact S.apart i j a _ _ _ _ z hi e2 e1 e3
  have nM0 : ¬ A.M0 a := fun z => nP (fr z)
  have st : Step M H (fun b => M b ∧ b ≠ a) H := fun b o n e _ => ⟨fun z => n z.1, e⟩
  have o := S.out
  have out : Out K G A (fun b => M b ∧ b ≠ a) H := ⟨o.live0, fun b z => o.live b z.1, o.stp.trans st, fun b u m0 np e f => ⟨⟨(o.oth b u m0 np e f).1, fun z => nM0 (z ▸ m0)⟩, (o.oth b u m0 np e f).2⟩, o.tabs⟩
  have dr : DR K (fun b => M b ∧ b ≠ a) H c (.ref a) := by
    rcases m with ⟨ds, vs, rfl, e, r⟩ | ⟨ks, xs, vs, rfl, l, e, r⟩
    · exact .lst e (fun z => z.2 rfl) (r.step st)
    · exact .dct rfl l e (fun z => z.2 rfl) (r.step st)
  refine ⟨a, _, e1, st, ⟨out, by rw [List.length_set]; exact S.len, fun j x e => ?_, fun j ns e => ?_, fun j b c' e => ?_, fun j k a' b c1 b' c2 hjk h1 h2 => ?_, fun p hp => ?_⟩, dr⟩
  · rcases get_set e with ⟨rfl, z⟩ | ⟨_, z⟩
    · cases z
      exact ⟨_, e1, dr⟩
    · obtain ⟨v, q1, q2⟩ := S.val j x z
      exact ⟨v, q1, q2.step st⟩
  · rcases get_set e with ⟨rfl, z⟩ | ⟨_, z⟩
    · cases z
    · obtain ⟨v, q1, q2⟩ := S.scr j ns z
      exact ⟨v, q1, st.scr q2⟩
  · rcases get_set e with ⟨rfl, z⟩ | ⟨hne, z⟩
    · cases z
    · obtain ⟨a', q1, q2, q3, q4, q5⟩ := S.own j b c' z
      refine ⟨a', q1, q2.step st fun _ z _ => z, ⟨q3, fun z' => ?_⟩, q4, q5⟩
      subst z'
      exact S.apart j i _ _ _ _ _ hne z hi q1 e1
  · rcases get_set h1 with ⟨rfl, z⟩ | ⟨_, z1⟩
    · cases z
    rcases get_set h2 with ⟨rfl, z⟩ | ⟨_, z2⟩
    · cases z
    exact S.apart j k a' b c1 b' c2 hjk z1 z2
  · obtain ⟨c', q1, q2⟩ := S.io p hp
    refine ⟨c', ?_, q2⟩
    have hne : p.1 ≠ i := fun z => by rw [z, hi] at q1; cases q1
    rw [List.getElem?_set_ne (Ne.symm hne)]
    exact q1
/-- an owned thing's content changes -/
theorem StR.change (S : StR K G A M sl σ H) {i : Nat} {b : Bool} {c c' : D} {a : Addr} {o : HO} (h : sl[i]? = some (.own b c)) (ha : σ[i]? = some (some (.ref a)))
    (fo : Fx o) (nt : ∀ ps, H a ≠ some (.tbl ps)) (nc : ∀ q, H a ≠ some (LamX.CodeO a q)) (m : MR K M (upd H a o) c' a) : Step M H M (upd H a o) ∧ StR K G A M (sl.set i (.own b c')) σ (upd H a o) := by
  obtain ⟨a', e1, m0, ma, fr, ob⟩ := S.own i b c h
  rw [ha] at e1; cases e1
  have st : Step M H M (upd H a o) := fun d u n e _ => ⟨n, by rw [upd_ne (fun z => n (by rw [z]; exact ma))]; exact e⟩
  have w := S.out
  have ne_a : ∀ d u, H d = some u → (∃ q, u = LamX.CodeO d q) ∨ (∃ ps, u = .tbl ps) → d ≠ a := fun d u e q z => by
    subst z
    rcases q with ⟨q, rfl⟩ | ⟨ps, rfl⟩
    · exact nc q e
    · exact nt ps e
  have out : Out K G A M (upd H a o) := by
    refine ⟨w.live0, fun d z => ?_, w.stp.trans st, fun d u m0' np e f => ?_, fun p hp => ?_⟩
    · by_cases hd : d = a
      · exact ⟨o, by rw [hd, upd_same], fo⟩
      · rw [upd_ne hd]; exact w.live d z
    · have hd : d ≠ a := fun z => np (by rw [z] at m0' ⊢; exact fr m0')
      rw [upd_ne hd]
      exact w.oth d u m0' np e f
    · obtain ⟨ps, h1, h2, h3⟩ := w.tabs p hp
      refine ⟨ps, by rw [upd_ne (ne_a _ _ h1 (.inr ⟨_, rfl⟩))]; exact h1, h2, fun pos cv hc => ?_⟩
      obtain ⟨x, q1, q2⟩ := h3 pos cv hc
      exact ⟨x, q1, by rw [upd_ne (ne_a _ _ q2 (.inl ⟨_, rfl⟩))]; exact q2⟩
  refine ⟨st, out, by rw [List.length_set]; exact S.len, fun j x e => ?_, fun j ns e => ?_, fun j b' c1 e => ?_, fun j k a' b1 c1 b2 c2 hjk h1 h2 => ?_, fun p hp => ?_⟩
  · rcases get_set e with ⟨rfl, z⟩ | ⟨_, z⟩
    · cases z
    · obtain ⟨v, q1, q2⟩ := S.val j x z
      exact ⟨v, q1, q2.step st⟩
  · rcases get_set e with ⟨rfl, z⟩ | ⟨_, z⟩
    · cases z
    · obtain ⟨v, q1, q2⟩ := S.scr j ns z
      exact ⟨v, q1, st.scr q2⟩
  · rcases get_set e with ⟨rfl, z⟩ | ⟨hne, z⟩
    · cases z
      exact ⟨a, ha, m, ma, fr, ob⟩
    · obtain ⟨a', q1, q2, q3, q4, q5⟩ := S.own j b' c1 z
      refine ⟨a', q1, q2.step st fun u z' _ => ?_, q3, q4, q5⟩
      rw [upd_ne ?_]; exact z'
      intro z'
      subst z'
      exact S.apart j i _ _ _ _ _ hne z h q1 ha
  · rcases get_set h1 with ⟨rfl, z⟩ | ⟨n1, z1⟩
    · rcases get_set h2 with ⟨rfl, z'⟩ | ⟨n2, z2⟩
      · exact absurd rfl hjk
      · exact S.apart j k a' _ _ _ _ hjk h z2
    · rcases get_set h2 with ⟨rfl, z'⟩ | ⟨n2, z2⟩
      · exact S.apart j k a' _ _ _ _ hjk z1 h
      · exact S.apart j k a' _ _ _ _ hjk z1 z2
  · obtain ⟨c1, q1, q2⟩ := S.io p hp
    by_cases hne : p.1 = i
    · rw [hne] at q1 ⊢
      rw [h] at q1
      cases q1
      refine ⟨c', ?_, by rw [← hne]; exact q2⟩
      exact List.getElem?_set_self (List.getElem?_eq_some_iff.mp h).1
    · exact ⟨c1, by rw [List.getElem?_set_ne (Ne.symm hne)]; exact q1, q2⟩
theorem lst_ntbl {a : Addr} {vs : List V} (e : H a = some (.lst vs)) : (∀ ps, H a ≠ some (.tbl ps)) ∧ ∀ q, H a ≠ some (LamX.CodeO a q) :=
  ⟨fun ps z => (by rw [e] at z; cases z), fun q z => (by rw [e] at z; cases z)⟩
theorem dK_ntbl {a : Addr} {vs : List (Key × V)} (e : H a = some (.dK vs)) : (∀ ps, H a ≠ some (.tbl ps)) ∧ ∀ q, H a ≠ some (LamX.CodeO a q) :=
  ⟨fun ps z => (by rw [e] at z; cases z), fun q z => (by rw [e] at z; cases z)⟩
/-- a slot is stored: a datum -/
theorem StR.store (S : StR K G A M sl σ H) {i : Nat} {x : D} {v : V} (r : DR K M H x v) (hio : ∀ c, sl[i]? ≠ some (.own true c)) : StR K G A M (sl.set i (.d x)) (σ.set i (some v)) H := by
  refine ⟨S.out, by rw [List.length_set, List.length_set]; exact S.len, fun j y e => ?_, fun j ns e => ?_, fun j b c' e => ?_, fun j k a' b c1 b' c2 hjk h1 h2 => ?_, fun p hp => ?_⟩
  · rcases get_set e with ⟨rfl, z⟩ | ⟨hne, z⟩
    · cases z
      have hl : j < σ.length := by
        have := (List.getElem?_eq_some_iff.mp e).1
        rw [List.length_set, S.len] at this; exact this
      exact ⟨v, List.getElem?_set_self hl, r⟩
    · obtain ⟨u, q1, q2⟩ := S.val j y z
      exact ⟨u, by rw [List.getElem?_set_ne (Ne.symm hne)]; exact q1, q2⟩
  · rcases get_set e with ⟨rfl, z⟩ | ⟨hne, z⟩
    · cases z
    · obtain ⟨v, q1, q2⟩ := S.scr j ns z
      exact ⟨v, by rw [List.getElem?_set_ne (Ne.symm hne)]; exact q1, q2⟩
  · rcases get_set e with ⟨rfl, z⟩ | ⟨hne, z⟩
    · cases z
    · obtain ⟨a', q1, q2⟩ := S.own j b c' z
      exact ⟨a', by rw [List.getElem?_set_ne (Ne.symm hne)]; exact q1, q2⟩
  · rcases get_set h1 with ⟨rfl, z⟩ | ⟨n1, z1⟩
    · cases z
    rcases get_set h2 with ⟨rfl, z⟩ | ⟨n2, z2⟩
    · cases z
    rw [List.getElem?_set_ne (Ne.symm n1), List.getElem?_set_ne (Ne.symm n2)]
    exact S.apart j k a' b c1 b' c2 hjk z1 z2
  · obtain ⟨c', q1, q2⟩ := S.io p hp
    have hne : p.1 ≠ i := fun z => hio c' (z ▸ q1)
    exact ⟨c', by rw [List.getElem?_set_ne (Ne.symm hne)]; exact q1, by rw [List.getElem?_set_ne (Ne.symm hne)]; exact q2⟩
/-- a slot is stored: a thing of one's own, that stands in no slot and is not the callers' -/
theorem StR.storeOwn (S : StR K G A M sl σ H) {i : Nat} {c : D} {a : Addr} (m : MR K M H c a) (ma : M a) (n0 : ¬ A.M0 a) (no : ∀ (j : Nat) (b : Bool) (c' : D), sl[j]? = some (.own b c') → σ[j]? ≠ some (some (.ref a))) (hio : ∀ c, sl[i]? ≠ some (.own true c)) :
    StR K G A M (sl.set i (.own false c)) (σ.set i (some (.ref a))) H := by
  have at_i : i < sl.length → (σ.set i (some (V.ref a)))[i]? = some (some (.ref a)) := fun h => List.getElem?_set_self (by rw [← S.len]; exact h)
  refine ⟨S.out, by rw [List.length_set, List.length_set]; exact S.len, fun j y e => ?_, fun j ns e => ?_, fun j b c' e => ?_, fun j k a' b c1 b' c2 hjk h1 h2 => ?_, fun p hp => ?_⟩
  · rcases get_set e with ⟨rfl, z⟩ | ⟨hne, z⟩
    · cases z
    · obtain ⟨u, q1, q2⟩ := S.val j y z
      exact ⟨u, by rw [List.getElem?_set_ne (Ne.symm hne)]; exact q1, q2⟩
  · rcases get_set e with ⟨rfl, z⟩ | ⟨hne, z⟩
    · cases z
    · obtain ⟨v, q1, q2⟩ := S.scr j ns z
      exact ⟨v, by rw [List.getElem?_set_ne (Ne.symm hne)]; exact q1, q2⟩
  · rcases get_set e with ⟨rfl, z⟩ | ⟨hne, z⟩
    · cases z
      have := (List.getElem?_eq_some_iff.mp e).1
      rw [List.length_set] at this
      exact ⟨a, at_i this, m, ma, fun z => absurd z n0, fun z => nomatch z⟩
    · obtain ⟨a', q1, q2⟩ := S.own j b c' z
      exact ⟨a', by rw [List.getElem?_set_ne (Ne.symm hne)]; exact q1, q2⟩
  · intro e1 e2
    rcases get_set h1 with ⟨rfl, z⟩ | ⟨n1, z1⟩
    · have := (List.getElem?_eq_some_iff.mp h1).1
      rw [List.length_set] at this
      rw [at_i this] at e1
      cases e1
      rcases get_set h2 with ⟨rfl, z⟩ | ⟨n2, z2⟩
      · exact hjk rfl
      · rw [List.getElem?_set_ne (Ne.symm n2)] at e2
        exact no k _ _ z2 e2
    · rcases get_set h2 with ⟨rfl, z⟩ | ⟨n2, z2⟩
      · have := (List.getElem?_eq_some_iff.mp h2).1
        rw [List.length_set] at this
        rw [at_i this] at e2
        cases e2
        rw [List.getElem?_set_ne (Ne.symm n1)] at e1
        exact no j _ _ z1 e1
      · rw [List.getElem?_set_ne (Ne.symm n1)] at e1
        rw [List.getElem?_set_ne (Ne.symm n2)] at e2
        exact S.apart j k a' b c1 b' c2 hjk z1 z2 e1 e2
  · obtain ⟨c', q1, q2⟩ := S.io p hp
    have hne : p.1 ≠ i := fun z => hio c' (z ▸ q1)
    exact ⟨c', by rw [List.getElem?_set_ne (Ne.symm hne)]; exact q1, by rw [List.getElem?_set_ne (Ne.symm hne)]; exact q2⟩
/-- a new thing of one's own -/
theorem StR.newOwn (S : StR K G A M sl σ H) {p : Addr} {o : HO} (hp : H p = none) (fo : Fx o) : ∃ M', Step M H M' (upd H p o) ∧ StR K G A M' sl σ (upd H p o) ∧ M' p ∧ ¬ A.M0 p ∧ (∀ (j : Nat) (b : Bool) (c' : D), sl[j]? = some (.own b c') → σ[j]? ≠ some (some (.ref p))) ∧ (∀ x v, DR K M H x v → DR K M' (upd H p o) x v) := by
  have st : Step M H (fun b => M b ∨ b = p) (upd H p o) := fun b u n e _ => ⟨fun z => z.elim n (ne_of_none e hp), upd_fresh hp b u e⟩
  have w := S.out
  have n0 : ¬ A.M0 p := fun z => by
    obtain ⟨u, e, f⟩ := w.live0 p z
    by_cases q : A.P p
    · obtain ⟨j, hj⟩ := q
      obtain ⟨c', e2, e3⟩ := S.io (j, p) hj
      obtain ⟨a', q1, q2, _⟩ := S.own j _ _ e2
      rw [e3] at q1; cases q1
      obtain ⟨o', z', _⟩ := q2.there
      rw [hp] at z'; cases z'
    · have := (w.oth p u z q e f).2
      rw [hp] at this; cases this
  have out : Out K G A (fun b => M b ∨ b = p) (upd H p o) :=
    ⟨w.live0, fun b z => z.elim (fun z => let ⟨u, e, f⟩ := w.live b z; ⟨u, upd_fresh hp b u e, f⟩) (fun z => ⟨o, by rw [z, upd_same], fo⟩), w.stp.trans st,
      fun b u m0 np e f => ⟨.inl (w.oth b u m0 np e f).1, upd_fresh hp b u (w.oth b u m0 np e f).2⟩, w.tabs.ext (upd_fresh hp)⟩
  refine ⟨_, st, ⟨out, S.len, fun i x e => ?_, fun i ns e => ?_, fun i b c e => ?_, S.apart, S.io⟩, .inr rfl, n0, fun j b c' e q => ?_, fun x v r => r.step st⟩
  · obtain ⟨v, h1, h2⟩ := S.val i x e
    exact ⟨v, h1, h2.step st⟩
  · obtain ⟨a, h1, h2⟩ := S.scr i ns e
    exact ⟨a, h1, st.scr h2⟩
  · obtain ⟨a, h1, h2, h3, h4⟩ := S.own i b c e
    exact ⟨a, h1, h2.step st fun u e _ => upd_fresh hp a u e, .inl h3, h4⟩
  · obtain ⟨a', q1, q2, _⟩ := S.own j _ _ e
    rw [q] at q1; cases q1
    obtain ⟨o', z', _⟩ := q2.there
    rw [hp] at z'; cases z'
end
end DE
namespace DE
open PySem PySem.Spec PyProof.Rows L2

/-! ### expressions: the mirrors -/
def eVar (i : Nat) : Ex := fun sl => match nth sl i with
  | .d x => .ok x sl
  | .own false c => .ok c (sl.set i (.d c))
  | _ => .stuck
def eC (x : D) : Ex := fun sl => .ok x sl
def eBin (f : D → D → Option D) (a b : Ex) : Ex := fun sl => (a sl).bind fun x sl => (b sl).bind fun y sl => optR (f x y) sl
def eUn (f : D → Option D) (a : Ex) : Ex := fun sl => (a sl).bind fun x sl => optR (f x) sl
def eNever : Ex := fun _ => .stuck
def truth : D → Option Bool
  | .none => some false
  | .bool b => some b
  | .int i => some (i != 0)
  | .str y => if y.length ≤ 16777216 then some ((y.length : Int) != 0) else none
  | .list xs => some (!xs.isEmpty)
  | .tuple xs => some (!xs.isEmpty)
  | .dict xs => some (!xs.isEmpty)
def tTru (a : Ex) : Tx := fun sl => (a sl).bind fun x sl => optR (truth x) sl
def tAnd' (a b : Tx) : Tx := fun sl => (a sl).bind fun c sl => match c with
  | true => b sl
  | false => .ok false sl
def tOr' (a b : Tx) : Tx := fun sl => (a sl).bind fun c sl => match c with
  | true => .ok true sl
  | false => b sl
def tNot' (a : Tx) : Tx := fun sl => (a sl).bind fun c sl => .ok (!c) sl
def eAnd (a b : Ex) : Ex := fun sl => (a sl).bind fun x sl => match x with
  | .bool true => b sl
  | .bool false => .ok (.bool false) sl
  | _ => .stuck
def eOr (a b : Ex) : Ex := fun sl => (a sl).bind fun x sl => match x with
  | .bool true => .ok (.bool true) sl
  | .bool false => b sl
  | _ => .stuck
def fNot : D → Option D
  | .bool b => some (.bool (!b))
  | _ => none
def eIf (t : Tx) (a b : Ex) : Ex := fun sl => (t sl).bind fun c sl => match c with
  | true => a sl
  | false => b sl
def eNil : Exs := fun sl => .ok [] sl
def eCons (a : Ex) (r : Exs) : Exs := fun sl => (a sl).bind fun x sl => (r sl).bind fun xs sl => .ok (x :: xs) sl
def eTup (es : Exs) : Ex := fun sl => (es sl).bind fun xs sl => if xs.length ≤ 16777216 then .ok (.tuple xs) sl else .stuck
def eLst (es : Exs) : Ex := fun sl => (es sl).bind fun xs sl => if xs.length ≤ 16777216 then .ok (.list xs) sl else .stuck
def eChain (f g : D → D → Option D) (a b c : Ex) : Ex := fun sl => (a sl).bind fun x sl => (b sl).bind fun y sl => match f x y with
  | some (.bool true) => (c sl).bind fun z sl => optR (g y z) sl
  | some (.bool false) => .ok (.bool false) sl
  | _ => .stuck

section
variable {X : Cx} {G : Gb} {A : Act} {Wx : WX} {a b c : Expr} {ea eb ec : Ex} {pos : Pos}

theorem r_var (i : Nat) {x : Str} (hN : X.N[i]? = some x := by rfl) (hv : Vis X.env.scope x := by first | exact Or.inl rfl | exact Or.inr (Or.inl rfl) | exact Or.inr (Or.inr rfl)) (hd : (x == ("__debug__" : Str)) = false := by decide)
    (hcd : (x == ("__classdict__" : Str)) = false := by decide) : PE X (.Name x pos) (tE X.K G A Wx (eVar i)) := by
  refine PE.imp (pe_var hN hv hd hcd) fun σ H Q ⟨M, sl, S, h⟩ => ?_
  have h' : Post X.K G A Wx (DR X.K) M H σ (match nth sl i with
    | .d x => .ok x sl
    | .own false c => .ok c (sl.set i (.d c))
    | _ => .stuck) Q := h
  cases e : nth sl i with
  | d x =>
    rw [e] at h'
    obtain ⟨v, e1, r⟩ := S.val i x (nth_d e)
    exact ⟨v, e1, Post.done S h' r⟩
  | own io c =>
    rw [e] at h'
    cases io with
    | true => exact h'.elim
    | false =>
      obtain ⟨a, M', e1, st, S', r⟩ := S.freeze e
      exact ⟨_, e1, h' _ H M' st S' r⟩
  | un => rw [e] at h'; exact h'.elim
  | scr ns => rw [e] at h'; exact h'.elim
theorem r_const {e : Expr} {v : V} {x : D} (he : PE X e (tC v)) (r : ∀ M H, DR X.K M H x v) : PE X e (tE X.K G A Wx (eC x)) :=
  PE.imp he fun σ H Q ⟨M, sl, S, h⟩ => Post.done S h (r M H)
theorem r_int {i : Int} {j : Nat} : PE X (.Constant (.int i) j pos) (tE X.K G A Wx (eC (.int i))) := r_const pe_int fun _ _ => .int i
theorem r_bl {b : Bool} {j : Nat} : PE X (.Constant (.bool b) j pos) (tE X.K G A Wx (eC (.bool b))) := r_const pe_bl fun _ _ => .bl b
theorem r_non {j : Nat} : PE X (.Constant .none j pos) (tE X.K G A Wx (eC .none)) := r_const pe_non fun _ _ => .non
theorem r_str {x : Str} {j : Nat} : PE X (.Constant (.str x) j pos) (tE X.K G A Wx (eC (.str x))) := r_const pe_str fun _ _ => .str x
/-- a module's constant: an int, a text -/
theorem r_globI {x : Str} {i : Int} {t : Tok} (hm : X.mg x = some (.int i t)) (hg : Gl X x := by rfl) (hd : (x == ("__debug__" : Str)) = false := by decide) : PE X (.Name x pos) (tE X.K G A Wx (eC (.int i))) := r_const (pe_glob hg hm (v := .int i) ⟨t, rfl⟩ hd) fun _ _ => .int i
theorem r_globS {x y : Str} {t : Tok} (hm : X.mg x = some (.str y t)) (hg : Gl X x := by rfl) (hd : (x == ("__debug__" : Str)) = false := by decide) : PE X (.Name x pos) (tE X.K G A Wx (eC (.str y))) := r_const (pe_glob hg hm (v := .str y) ⟨t, rfl⟩ hd) fun _ _ => .str y
/-- what an operation's rule asks, from the mirror's answer -/
def BinOk (X : Cx) (G : Gb) (A : Act) (Wx : WX) (f : D → D → Option D) (r : R2) : Prop := ∀ (M : Addr → Prop) (sl : Sl) (σ : L2.St) (H : Hp) (x y z : D) (v u : V) (Q : VK), StR X.K G A M sl σ H → f x y = some z → DR X.K M H x v → DR X.K M H y u → Post X.K G A Wx (DR X.K) M H σ (.ok z sl) Q → r v u H Q
def UnOk (X : Cx) (G : Gb) (A : Act) (Wx : WX) (f : D → Option D) (r : V → Hp → VK → Prop) : Prop := ∀ (M : Addr → Prop) (sl : Sl) (σ : L2.St) (H : Hp) (x z : D) (v : V) (Q : VK), StR X.K G A M sl σ H → f x = some z → DR X.K M H x v → Post X.K G A Wx (DR X.K) M H σ (.ok z sl) Q → r v H Q
theorem BinOk.to {f : D → D → Option D} {r : R2} (hf : BinOk X G A Wx f r) {σ : L2.St} {H : Hp} {Q : VK} (h : tE X.K G A Wx (eBin f ea eb) σ H Q) : tOp r (tE X.K G A Wx ea) (tE X.K G A Wx eb) σ H Q := by
  obtain ⟨M, sl, S, h⟩ := h
  refine tX.bind S h fun M1 x sl1 v H1 s1 S1 r1 h1 => tX.bind S1 h1 fun M2 y sl2 u H2 s2 S2 r2 h2 => ?_
  cases e : f x y with
  | none => rw [e] at h2; exact h2.elim
  | some z =>
    rw [e] at h2
    exact hf M2 sl2 σ H2 x y z v u Q S2 e (r1.step s2) r2 h2
theorem r_bin {op : Operator} {f : D → D → Option D} {r : R2} (ho : OpR X (binaryOp op) r) (hf : BinOk X G A Wx f r) (ha : PE X a (tE X.K G A Wx ea)) (hb : PE X b (tE X.K G A Wx eb)) : PE X (.BinOp a op b pos) (tE X.K G A Wx (eBin f ea eb)) :=
  PE.imp (pe_op ho ha hb) fun _ _ _ h => hf.to h
theorem r_cmp {op : CmpOp} {f : D → D → Option D} {r : R2} (ho : OpR X (compareOp op) r) (hf : BinOk X G A Wx f r) (ha : PE X a (tE X.K G A Wx ea)) (hb : PE X b (tE X.K G A Wx eb)) (hm : behindInMarks op b = false) : PE X (.Compare a [op] [b] pos) (tE X.K G A Wx (eBin f ea eb)) :=
  PE.imp (pe_cmpR ho ha hb hm) fun _ _ _ h => hf.to h
/-- the answers are bools -/
def Bools (f : D → D → Option D) : Prop := ∀ x y z, f x y = some z → ∃ k, z = .bool k
theorem tE_of_tT {σ : L2.St} {H : Hp} {Q : Bool → Hp → Prop} (f : D → D → Option D) (hb : Bools f) (h : tT X.K G A Wx (tTru (eBin f ea eb)) σ H Q) : tE X.K G A Wx (eBin f ea eb) σ H fun x H' => ∃ k, x = .bl k ∧ Q k H' := by
  obtain ⟨M, sl, S, h⟩ := h
  refine ⟨M, sl, S, ?_⟩
  unfold tTru at h
  cases e : eBin f ea eb sl with
  | stuck => rw [e] at h; exact h
  | exc x => rw [e] at h; exact h
  | ok x sl' =>
    rw [e] at h
    have hz : ∃ k, x = .bool k := by
      unfold eBin at e
      cases e1 : ea sl with
      | stuck => rw [e1] at e; cases e
      | exc _ => rw [e1] at e; cases e
      | ok p q =>
        rw [e1] at e
        have e' : ((eb q).bind fun y sl => optR (f p y) sl) = .ok x sl' := e
        cases e2 : eb q with
        | stuck => rw [e2] at e'; cases e'
        | exc _ => rw [e2] at e'; cases e'
        | ok p' q' =>
          rw [e2] at e'
          have e3 : optR (f p p') q' = .ok x sl' := e'
          cases e4 : f p p' with
          | none => rw [e4] at e3; cases e3
          | some z => rw [e4] at e3; cases e3; exact hb _ _ _ e4
    obtain ⟨k, rfl⟩ := hz
    exact fun v H' M' s S' r => ⟨k, r.bl_inv, h k H' M' s S' rfl⟩
theorem rt_cmp {op : CmpOp} {f : D → D → Option D} {r : R2} (ho : OpR X (compareOp op) r) (hf : BinOk X G A Wx f r) (hbl : Bools f) (ha : PE X a (tE X.K G A Wx ea)) (hb : PE X b (tE X.K G A Wx eb)) (hm : behindInMarks op b = false) : PT X (.Compare a [op] [b] pos) (tT X.K G A Wx (tTru (eBin f ea eb))) :=
  PT.imp (pt_cmpR ho ha hb hm) fun _ _ _ h => hf.to (tE_of_tT f hbl h)
/-- a value's truth -/
theorem truV {M : Addr → Prop} {sl : Sl} {σ : L2.St} {H : Hp} {x : D} {v : V} {k : Bool} (r : DR X.K M H x v) (h : truth x = some k) : TruV X.K v H k := by
  have line : (sizeLine : Nat) = 16777216 := sizeLine_eq
  cases r with
  | non => cases h; rfl
  | bl b => cases h; rfl
  | int i => cases h; rfl
  | str y =>
    have h' : (if y.length ≤ 16777216 then some ((y.length : Int) != 0) else none) = some k := h
    by_cases c : y.length ≤ 16777216
    · rw [if_pos c] at h'
      exact ⟨by rw [line]; exact c, (Option.some.inj h').symm⟩
    · rw [if_neg c] at h'; cases h'
  | @tup a ds vs t r =>
    refine .inr (.inl ⟨vs, t.sq, ?_⟩)
    have e : (!ds.isEmpty) = k := Option.some.inj h
    rw [← e]
    cases r <;> rfl
  | @lst a ds vs t n r =>
    refine .inl ⟨vs, .of t, ?_⟩
    have e : (!ds.isEmpty) = k := Option.some.inj h
    rw [← e]
    cases r <;> rfl
  | @dct a ks xs vs m em l t n r =>
    refine .inr (.inr ⟨_, t, ?_⟩)
    subst em
    have e : (!((ks.map kD).zip xs).isEmpty) = k := Option.some.inj h
    rw [← e]
    cases r with
    | nil => cases ks with
      | nil => rfl
      | cons _ _ => cases l
    | cons _ _ => cases ks with
      | nil => cases l
      | cons _ _ => rfl
theorem rt_tru (ha : PE X a (tE X.K G A Wx ea)) (he : ∀ whole, isTrue a X.env whole = (do let v ← whole; standAt a.pos; holding [v] (truthy v)) := by intro _; rfl) : PT X a (tT X.K G A Wx (tTru ea)) := by
  refine PT.imp (pt_truth ha he) fun σ H Q ⟨M, sl, S, h⟩ => tX.bind S h fun M1 x sl1 v H1 s1 S1 r1 h1 => ?_
  cases e : truth x with
  | none => rw [e] at h1; exact h1.elim
  | some k =>
    rw [e] at h1
    exact ⟨k, truV (sl := sl1) (σ := σ) r1 e, Post.done S1 h1 rfl⟩
variable {ta tb : Tx} {rest : List Expr}
theorem rw_one_and (ha : PT X a (tT X.K G A Wx ta)) : PW X (.BoolOp .And [a] pos) (tT X.K G A Wx ta) := pw_and1 ha
theorem rw_one_or (ha : PT X a (tT X.K G A Wx ta)) : PW X (.BoolOp .Or [a] pos) (tT X.K G A Wx ta) := pw_or1 ha
theorem rw_and (ha : PT X a (tT X.K G A Wx ta)) (hb : PW X (.BoolOp .And (b :: rest) pos) (tT X.K G A Wx tb)) : PW X (.BoolOp .And (a :: b :: rest) pos) (tT X.K G A Wx (tAnd' ta tb)) := by
  refine PW.imp (pw_and ha hb) fun σ H Q ⟨M, sl, S, h⟩ => tX.bind S h fun M1 x sl1 v H1 s1 S1 r1 h1 => ?_
  subst r1
  cases x with
  | true => exact iteT ⟨M1, sl1, S1, h1⟩
  | false => exact iteF (Post.done S1 h1 rfl)
theorem rw_or (ha : PT X a (tT X.K G A Wx ta)) (hb : PW X (.BoolOp .Or (b :: rest) pos) (tT X.K G A Wx tb)) : PW X (.BoolOp .Or (a :: b :: rest) pos) (tT X.K G A Wx (tOr' ta tb)) := by
  refine PW.imp (pw_or ha hb) fun σ H Q ⟨M, sl, S, h⟩ => tX.bind S h fun M1 x sl1 v H1 s1 S1 r1 h1 => ?_
  subst r1
  cases x with
  | true => exact iteT (Post.done S1 h1 rfl)
  | false => exact iteF ⟨M1, sl1, S1, h1⟩
theorem rt_not (ha : PT X a (tT X.K G A Wx ta)) : PT X (.UnaryOp .Not a pos) (tT X.K G A Wx (tNot' ta)) := by
  refine PT.imp (pt_not ha) fun σ H Q ⟨M, sl, S, h⟩ => tX.bind S h fun M1 x sl1 v H1 s1 S1 r1 h1 => ?_
  subst r1
  exact Post.done S1 h1 rfl
theorem r_and (ha : PE X a (tE X.K G A Wx ea)) (hb : PE X (.BoolOp .And (b :: rest) pos) (tE X.K G A Wx eb)) : PE X (.BoolOp .And (a :: b :: rest) pos) (tE X.K G A Wx (eAnd ea eb)) := by
  refine PE.imp (pe_and ha hb) fun σ H Q ⟨M, sl, S, h⟩ => tX.bind S h fun M1 x sl1 v H1 s1 S1 r1 h1 => ?_
  cases x with
  | bool k =>
    refine ⟨k, r1.bl_inv, ?_⟩
    cases k with
    | true => exact iteT ⟨M1, sl1, S1, h1⟩
    | false => exact iteF (Post.done S1 h1 (.bl false))
  | _ => exact h1.elim
theorem r_or (ha : PE X a (tE X.K G A Wx ea)) (hb : PE X (.BoolOp .Or (b :: rest) pos) (tE X.K G A Wx eb)) : PE X (.BoolOp .Or (a :: b :: rest) pos) (tE X.K G A Wx (eOr ea eb)) := by
  refine PE.imp (pe_or ha hb) fun σ H Q ⟨M, sl, S, h⟩ => tX.bind S h fun M1 x sl1 v H1 s1 S1 r1 h1 => ?_
  cases x with
  | bool k =>
    refine ⟨k, r1.bl_inv, ?_⟩
    cases k with
    | true => exact iteT (Post.done S1 h1 (.bl true))
    | false => exact iteF ⟨M1, sl1, S1, h1⟩
  | _ => exact h1.elim
theorem r_one {op : BoolOp} (ha : PE X a (tE X.K G A Wx ea)) : PE X (.BoolOp op [a] pos) (tE X.K G A Wx ea) := pe_one ha
theorem r_not (ha : PE X a (tE X.K G A Wx ea)) : PE X (.UnaryOp .Not a pos) (tE X.K G A Wx (eUn fNot ea)) := by
  refine PE.imp (pe_not ha) fun σ H Q ⟨M, sl, S, h⟩ => tX.bind S h fun M1 x sl1 v H1 s1 S1 r1 h1 => ?_
  cases x with
  | bool k => exact ⟨k, r1.bl_inv, Post.done S1 h1 (.bl _)⟩
  | _ => exact h1.elim
theorem r_if (hc : PT X c (tT X.K G A Wx ta)) (ha : PE X a (tE X.K G A Wx ea)) (hb : PE X b (tE X.K G A Wx eb)) : PE X (.IfExp c a b pos) (tE X.K G A Wx (eIf ta ea eb)) := by
  refine PE.imp (pe_ifExp hc ha hb) fun σ H Q ⟨M, sl, S, h⟩ => tX.bind S h fun M1 x sl1 v H1 s1 S1 r1 h1 => ?_
  subst r1
  cases x with
  | true => exact iteT ⟨M1, sl1, S1, h1⟩
  | false => exact iteF ⟨M1, sl1, S1, h1⟩
theorem r_chain {op op' : CmpOp} {f g : D → D → Option D} {r r' : R2} (ho : OpR X (compareOp op) r) (ho' : OpR X (compareOp op') r') (hf : BinOk X G A Wx f r) (hg : BinOk X G A Wx g r')
    (ha : PE X a (tE X.K G A Wx ea)) (hb : PE X b (tE X.K G A Wx eb)) (hc : PE X c (tE X.K G A Wx ec)) (hm : lastMarks [op, op'] [b, c] = false := by with_unfolding_all rfl) : PE X (.Compare a [op, op'] [b, c] pos) (tE X.K G A Wx (eChain f g ea eb ec)) := by
  refine PE.imp (pe_chain ho ho' ha hb hc hm) fun σ H Q ⟨M, sl, S, h⟩ => tX.bind S h fun M1 x sl1 v H1 s1 S1 r1 h1 => tX.bind S1 h1 fun M2 y sl2 u H2 s2 S2 r2 h2 => ?_
  cases e : f x y with
  | none => rw [e] at h2; exact h2.elim
  | some z =>
    rw [e] at h2
    cases z with
    | bool k =>
      refine hf M2 sl2 σ H2 x y _ v u _ S2 e (r1.step s2) r2 ?_
      intro w H3 M3 s3 S3 r3
      refine ⟨k, r3.bl_inv, ?_⟩
      cases k with
      | true =>
        refine iteT (tX.bind S3 (Post.step s3 h2) fun M4 z sl4 w' H4 s4 S4 r4 h4 => ?_)
        cases e' : g y z with
        | none => rw [e'] at h4; exact h4.elim
        | some q =>
          rw [e'] at h4
          exact hg M4 sl4 σ H4 y z q u w' Q S4 e' ((r2.step s3).step s4) r4 h4
      | false => exact iteF (Post.done S3 (Post.step s3 h2) (.bl false))
    | _ => exact h2.elim
/-! ### displays -/
variable {es : List Expr} {ees : Exs}
theorem ra_nil : PA X [] (tA X.K G A Wx eNil) := PA.imp pa_nil fun σ H Q ⟨M, sl, S, h⟩ => Post.done S h .nil
theorem ra_cons (ha : PE X a (tE X.K G A Wx ea)) (hr : PA X es (tA X.K G A Wx ees)) (hs : starEach (a :: es) X.env = (false, eval a X.env) :: starEach es X.env := by rfl) : PA X (a :: es) (tA X.K G A Wx (eCons ea ees)) := by
  refine PA.imp (pa_cons ha hr hs) fun σ H Q ⟨M, sl, S, h⟩ => tX.bind S h fun M1 x sl1 v H1 s1 S1 r1 h1 => tX.bind S1 h1 fun M2 y sl2 u H2 s2 S2 r2 h2 => ?_
  exact Post.done S2 h2 (.cons (r1.step s2) r2)
theorem r_tup {x1} (h : PA X es (tA X.K G A Wx ees)) : PE X (.Tuple es x1 pos) (tE X.K G A Wx (eTup ees)) := by
  refine PE.imp (pe_tup h) fun σ H Q ⟨M, sl, S, h⟩ => tX.bind S h fun M1 x sl1 v H1 s1 S1 r1 h1 => ?_
  by_cases c : x.length ≤ 16777216
  · rw [if_pos c] at h1
    refine ⟨by rw [← r1.length, sizeLine_eq]; exact c, fun p hp => ?_⟩
    exact h1 _ _ M1 (Step.fresh hp) (S1.fresh hp) (S1.tup hp r1)
  · rw [if_neg c] at h1; exact h1.elim
theorem r_lst (h : PA X es (tA X.K G A Wx ees)) : PE X (.List es pos) (tE X.K G A Wx (eLst ees)) := by
  refine PE.imp (pe_lst h) fun σ H Q ⟨M, sl, S, h⟩ => tX.bind S h fun M1 x sl1 v H1 s1 S1 r1 h1 => ?_
  by_cases c : x.length ≤ 16777216
  · rw [if_pos c] at h1
    refine ⟨by rw [← r1.length, sizeLine_eq]; exact c, fun p hp => ?_⟩
    exact h1 _ _ M1 (Step.fresh hp) (S1.fresh hp) (S1.lst hp r1)
  · rw [if_neg c] at h1; exact h1.elim
/-! ### one value in -/
theorem UnOk.un {f : D → Option D} {r : V → Hp → VK → Prop} (hf : UnOk X G A Wx f r) {σ : L2.St} {H : Hp} {Q : VK} (h : tE X.K G A Wx (eUn f ea) σ H Q) : tE X.K G A Wx ea σ H fun x H1 => r x H1 Q := by
  obtain ⟨M, sl, S, h⟩ := h
  refine tX.bind S h fun M1 x sl1 v H1 s1 S1 r1 h1 => ?_
  cases e : f x with
  | none => rw [e] at h1; exact h1.elim
  | some z => rw [e] at h1; exact hf M1 sl1 σ H1 x z v Q S1 e r1 h1
theorem r_un {op : UnaryOp} {f : D → Option D} {r : V → Hp → VK → Prop} (ho : UnR X (unaryOp op) r) (hf : UnOk X G A Wx f r) (ha : PE X a (tE X.K G A Wx ea)) : PE X (.UnaryOp op a pos) (tE X.K G A Wx (eUn f ea)) :=
  PE.imp (pe_un ho ha) fun _ _ _ h => hf.un h
theorem tA1 {σ : L2.St} {H : Hp} {Q : List V → Hp → Prop} (h : tE X.K G A Wx ea σ H fun x H1 => Q [x] H1) : tCons (tE X.K G A Wx ea) tNil σ H Q := h
/-- f(e), a built-in function -/
theorem r_call1 {x : Str} {p : Pos} {id : String} {f : D → Option D} {r : List V → Hp → VK → Prop} (hc : CallR X (.builtin id) r) (hf : UnOk X G A Wx f (fun v H Q => r [v] H Q)) (hm : X.mg x = none) (hv : bootBuiltins x = some (.builtin id)) (ha : PE X a (tE X.K G A Wx ea)) (hg : Gl X x := by rfl)
    (hn : x ≠ "__name__" := by decide) (hdb : (x == ("__debug__" : Str)) = false := by decide) (he : starEach (a :: []) X.env = (false, eval a X.env) :: starEach [] X.env := by rfl) (hpl : (backTo pos (starEach [] X.env)).any (·.1) = false := by rfl) :
    PE X (.Call (.Name x p) [a] [] pos) (tE X.K G A Wx (eUn f ea)) :=
  PE.imp (pe_callB hc hg hm hv (pa_cons ha pa_nil he) hn hdb he hpl) fun _ _ _ h => tA1 (hf.un h)
/-- T(e), a built-in type -/
theorem r_callT1 {x : Str} {p : Pos} {T : String} {f : D → Option D} {r : List V → Hp → VK → Prop} (hc : CallR X (.type T) r) (hf : UnOk X G A Wx f (fun v H Q => r [v] H Q)) (hm : X.mg x = none) (hv : bootBuiltins x = some (.type T)) (ha : PE X a (tE X.K G A Wx ea)) (hg : Gl X x := by rfl)
    (hn : x ≠ "__name__" := by decide) (hdb : (x == ("__debug__" : Str)) = false := by decide) (he : starEach (a :: []) X.env = (false, eval a X.env) :: starEach [] X.env := by rfl) (hpl : (backTo pos (starEach [] X.env)).any (·.1) = false := by rfl) :
    PE X (.Call (.Name x p) [a] [] pos) (tE X.K G A Wx (eUn f ea)) :=
  PE.imp (pe_callTy hc hg hm hv (pa_cons ha pa_nil he) hn hdb he hpl) fun _ _ _ h => tA1 (hf.un h)
/-- f(a, b), a built-in function (by its name, or a module's name for it) -/
theorem r_call2 {x : Str} {p : Pos} {id : String} {f : D → D → Option D} {r : List V → Hp → VK → Prop} (hc : CallR X (.builtin id) r) (hf : BinOk X G A Wx f (fun v u H Q => r [v, u] H Q)) (hm : X.mg x = none) (hv : bootBuiltins x = some (.builtin id)) (ha : PE X a (tE X.K G A Wx ea)) (hb : PE X b (tE X.K G A Wx eb)) (hg : Gl X x := by rfl)
    (hn : x ≠ "__name__" := by decide) (hdb : (x == ("__debug__" : Str)) = false := by decide) (he : starEach (a :: [b]) X.env = (false, eval a X.env) :: starEach [b] X.env := by rfl) (he2 : starEach (b :: []) X.env = (false, eval b X.env) :: starEach [] X.env := by rfl) (hpl : (backTo pos (starEach [b] X.env)).any (·.1) = false := by rfl) :
    PE X (.Call (.Name x p) [a, b] [] pos) (tE X.K G A Wx (eBin f ea eb)) :=
  PE.imp (pe_callB hc hg hm hv (pa_cons ha (pa_cons hb pa_nil he2) he) hn hdb he hpl) fun σ H Q h => by
    have q := hf.to h
    exact q
theorem r_callM2 {x : Str} {p : Pos} {id : String} {f : D → D → Option D} {r : List V → Hp → VK → Prop} (hc : CallR X (.builtin id) r) (hf : BinOk X G A Wx f (fun v u H Q => r [v, u] H Q)) (hm : X.mg x = some (.builtin id)) (ha : PE X a (tE X.K G A Wx ea)) (hb : PE X b (tE X.K G A Wx eb)) (hg : Gl X x := by rfl)
    (hdb : (x == ("__debug__" : Str)) = false := by decide) (he : starEach (a :: [b]) X.env = (false, eval a X.env) :: starEach [b] X.env := by rfl) (he2 : starEach (b :: []) X.env = (false, eval b X.env) :: starEach [] X.env := by rfl) (hpl : (backTo pos (starEach [b] X.env)).any (·.1) = false := by rfl) :
    PE X (.Call (.Name x p) [a, b] [] pos) (tE X.K G A Wx (eBin f ea eb)) :=
  PE.imp (pe_callBfun hc hg hm (pa_cons ha (pa_cons hb pa_nil he2) he) hdb he hpl) fun σ H Q h => by
    have q := hf.to h
    exact q
end
end DE
namespace DE
open PySem PySem.Spec PyProof.Rows L2

/-! ### operations: the mirrors -/
def fAdd : D → D → Option D
  | .int i, .int j => some (.int (i + j))
  | .str a, .str b => if a.length + b.length ≤ 16777216 then some (.str (a ++ b)) else none
  | .list a, .list b => if a.length + b.length ≤ 16777216 then some (.list (a ++ b)) else none
  | .tuple a, .tuple b => if a.length + b.length ≤ 16777216 then some (.tuple (a ++ b)) else none
  | _, _ => none
def fSub : D → D → Option D
  | .int i, .int j => some (.int (i - j))
  | .bool p, .bool q => some (.int (b2i p - b2i q))
  | _, _ => none
def fMul : D → D → Option D
  | .int i, .int j => if i.natAbs.log2 + j.natAbs.log2 < 1000000 then some (.int (i * j)) else none
  | .list xs, .int k => if -4611686018427387904 ≤ k ∧ k < 4611686018427387904 ∧ xs.length * k.toNat ≤ 16777216 then some (.list (List.replicate k.toNat xs).flatten) else none
  | .tuple xs, .int k => if xs.isEmpty = false ∧ 2 ≤ k ∧ k ≤ 1000 ∧ xs.length ≤ 1000 then some (.tuple (List.replicate k.toNat xs).flatten) else none
  | _, _ => none
def fDiv : D → D → Option D
  | .int i, .int j => if 0 < j then (if j.natAbs.log2 < 9000 then some (.int (i / j)) else none) else if j ≠ 0 ∧ j.natAbs < 1073741824 then some (.int (i.fdiv j)) else none
  | _, _ => none
def fMod : D → D → Option D
  | .int i, .int j => if 0 < j then some (.int (i % j)) else none
  | _, _ => none
def fPow : D → D → Option D
  | .int i, .int j => if 0 ≤ j ∧ (Builtin.Int.intBits i : Int) * j ≤ 134217728 then some (.int (i ^ j.toNat)) else none
  | _, _ => none
def fShl : D → D → Option D
  | .int i, .int j => if 0 ≤ j ∧ (Builtin.Int.intBits i : Int) + j ≤ 134217728 then some (.int (i * 2 ^ j.toNat)) else none
  | _, _ => none
def fShr : D → D → Option D
  | .int i, .int j => if 0 ≤ j then some (.int (i / 2 ^ j.toNat)) else none
  | _, _ => none
def fBand : D → D → Option D
  | .int i, .int j => some (.int (Builtin.bitAnd i j))
  | _, _ => none
def fBor : D → D → Option D
  | .int i, .int j => some (.int (Builtin.bitOr i j))
  | _, _ => none
def fXor : D → D → Option D
  | .int i, .int j => some (.int (Builtin.bitXor i j))
  | _, _ => none
def fNeg : D → Option D
  | .int i => some (.int (-i))
  | _ => none
def fLt : D → D → Option D
  | .int i, .int j => some (.bool (decide (i < j)))
  | _, _ => none
def fLe : D → D → Option D
  | .int i, .int j => some (.bool (decide (i ≤ j)))
  | _, _ => none
def fGt : D → D → Option D
  | .int i, .int j => some (.bool (decide (j < i)))
  | _, _ => none
def fGe : D → D → Option D
  | .int i, .int j => some (.bool (decide (j ≤ i)))
  | _, _ => none
def fEq (x y : D) : Option D := if SeqAt.shaped x = true ∧ SeqAt.shaped y = true then some (.bool (PyData.eqv x y)) else none
def fNe (x y : D) : Option D := if SeqAt.shaped x = true ∧ SeqAt.shaped y = true then some (.bool (!PyData.eqv x y)) else none
def isNone : D → Bool
  | .none => true
  | _ => false
def fIs : D → D → Option D
  | x, .none => some (.bool (isNone x))
  | _, _ => none
def fIsNot : D → D → Option D
  | x, .none => some (.bool (!isNone x))
  | _, _ => none
def flatD : D → Bool
  | .none => true
  | .bool _ => true
  | .int _ => true
  | .str _ => true
  | _ => false
def fIn : D → D → Option D
  | x, .list ys => if SeqAt.shaped x = true ∧ SeqAt.shaped (.list ys) = true then some (.bool (ys.any fun z => PyData.eqv z x)) else none
  | x, .tuple ys => if flatD x = true ∧ ys.all flatD = true then some (.bool (ys.any fun z => PyData.eqv z x)) else none
  | _, _ => none
def fNotIn : D → D → Option D
  | x, .list ys => if SeqAt.shaped x = true ∧ SeqAt.shaped (.list ys) = true then some (.bool (!ys.any fun z => PyData.eqv z x)) else none
  | x, .tuple ys => if flatD x = true ∧ ys.all flatD = true then some (.bool (!ys.any fun z => PyData.eqv z x)) else none
  | _, _ => none
def fIx : D → D → Option D
  | .list xs, .int i => atI xs i
  | .tuple xs, .int i => atI xs i
  | _, _ => none
def fLen : D → Option D
  | .str y => if y.length ≤ 16777216 then some (.int y.length) else none
  | .list xs => some (.int xs.length)
  | .tuple xs => some (.int xs.length)
  | _ => none
def fAbs : D → Option D
  | .int i => some (.int (if i < 0 then -i else i))
  | _ => none
def fMax2 : D → D → Option D
  | .int i, .int j => some (.int (if j > i then j else i))
  | _, _ => none
def fMin2 : D → D → Option D
  | .int i, .int j => some (.int (if j < i then j else i))
  | _, _ => none
def fInt : D → Option D
  | .int i => some (.int i)
  | .bool b => some (.int (if b then 1 else 0))
  | _ => none
def fGcd : D → D → Option D
  | .int i, .int j => some (.int ((Nat.gcd i.natAbs j.natAbs : Nat) : Int))
  | _, _ => none
/-- the ints of a list, if all are -/
def intsOf : List D → Option (List Int)
  | [] => some []
  | .int i :: r => (intsOf r).map (i :: ·)
  | _ => none
def boolsOf : List D → Option (List Bool)
  | [] => some []
  | .bool b :: r => (boolsOf r).map (b :: ·)
  | _ => none
def sumI : List Int → Int
  | [] => 0
  | i :: r => i + sumI r
def minI : Int → List Int → Int
  | m, [] => m
  | m, i :: r => minI (if i < m then i else m) r
def maxI : Int → List Int → Int
  | m, [] => m
  | m, i :: r => maxI (if i > m then i else m) r
def fSum : D → Option D
  | .list xs => (intsOf xs).map fun ns => .int (sumI ns)
  | .tuple xs => (intsOf xs).map fun ns => .int (sumI ns)
  | _ => none
def fMin : D → Option D
  | .list xs => match intsOf xs with
    | some (i :: r) => some (.int (minI i r))
    | _ => none
  | _ => none
def fMax : D → Option D
  | .list xs => match intsOf xs with
    | some (i :: r) => some (.int (maxI i r))
    | _ => none
  | _ => none
def fAll : D → Option D
  | .list xs => (boolsOf xs).map fun bs => .bool (bs.all id)
  | _ => none
def fAny : D → Option D
  | .list xs => (boolsOf xs).map fun bs => .bool (bs.any id)
  | _ => none
def fTuple : D → Option D
  | .list xs => some (.tuple xs)
  | .tuple xs => some (.tuple xs)
  | _ => none
def fListT : D → Option D
  | .list xs => some (.list xs)
  | .tuple xs => some (.list xs)
  | _ => none
inductive Ty where | int | bool | tuple | str | list | dict
def Ty.nm : Ty → String
  | .int => "int" | .bool => "bool" | .tuple => "tuple" | .str => "str" | .list => "list" | .dict => "dict"
def isT : Ty → D → Bool
  | .int, .int _ => true
  | .int, .bool _ => true
  | .bool, .bool _ => true
  | .tuple, .tuple _ => true
  | .str, .str _ => true
  | .list, .list _ => true
  | .dict, .dict _ => true
  | _, _ => false
def fIsi (T : Ty) (x : D) : Option D := some (.bool (isT T x))

/-! ### what the rules ask -/
section
variable {X : Cx} {G : Gb} {A : Act} {Wx : WX}
theorem line_eq : (sizeLine : Nat) = 16777216 := sizeLine_eq
theorem b_int {f : D → D → Option D} {C : Int → Int → Prop} {g : Int → Int → Int} (h : ∀ x y z, f x y = some z → ∃ i j, x = .int i ∧ y = .int j ∧ C i j ∧ z = .int (g i j)) : BinOk X G A Wx f (rI C fun i j => .int (g i j)) := by
  intro M sl σ H x y z v u Q S e rx ry p
  obtain ⟨i, j, rfl, rfl, c, rfl⟩ := h x y z e
  exact ⟨i, j, rx.int_inv, ry.int_inv, c, Post.done S p (.int _)⟩
theorem b_int0 {f : D → D → Option D} {g : Int → Int → Int} (h : ∀ x y z, f x y = some z → ∃ i j, x = .int i ∧ y = .int j ∧ z = .int (g i j)) : BinOk X G A Wx f (rI0 fun i j => .int (g i j)) := by
  intro M sl σ H x y z v u Q S e rx ry p
  obtain ⟨i, j, rfl, rfl, rfl⟩ := h x y z e
  exact ⟨i, j, rx.int_inv, ry.int_inv, Post.done S p (.int _)⟩
theorem b_bool0 {f : D → D → Option D} {g : Int → Int → Bool} (h : ∀ x y z, f x y = some z → ∃ i j, x = .int i ∧ y = .int j ∧ z = .bool (g i j)) : BinOk X G A Wx f (rI0 fun i j => .bl (g i j)) := by
  intro M sl σ H x y z v u Q S e rx ry p
  obtain ⟨i, j, rfl, rfl, rfl⟩ := h x y z e
  exact ⟨i, j, rx.int_inv, ry.int_inv, Post.done S p (.bl _)⟩
def rAddA (K : PySem.W.Frag) : R2 := fun x y H Q => rI0 (fun i j => .int (i + j)) x y H Q ∨ (fun (x y : V) (H : Hp) (Q : VK) => ∃ i j, x = .str i ∧ y = .str j ∧ i.length + j.length ≤ sizeLine ∧ Q (.str (i ++ j)) H) x y H Q ∨ rCat x y H Q ∨ rCatA K x y H Q
theorem op_addA : OpR X (binaryOp .Add) (rAddA X.K) := OpR.or op_add (OpR.or op_add_str (OpR.or op_cat op_catA))
theorem b_add : BinOk X G A Wx fAdd (rAddA X.K) := by
  intro M sl σ H x y z v u Q S e rx ry p
  unfold fAdd at e
  split at e
  · cases e
    exact .inl ⟨_, _, rx.int_inv, ry.int_inv, Post.done S p (.int _)⟩
  · split at e
    · cases e
      exact .inr (.inl ⟨_, _, rx.str_inv, ry.str_inv, by rw [line_eq]; assumption, Post.done S p (.str _)⟩)
    · cases e
  · split at e
    · cases e
      cases rx with
      | lst t1 n1 d1 =>
        cases ry with
        | lst t2 n2 d2 =>
          exact .inr (.inr (.inl ⟨_, _, _, _, rfl, rfl, t1, t2, by rw [line_eq, ← d1.length, ← d2.length]; assumption, fun q hq => p _ _ M (Step.fresh hq) (S.fresh hq) (S.lst hq (d1.append d2))⟩))
    · cases e
  · split at e
    · cases e
      cases rx with
      | tup t1 d1 =>
        cases ry with
        | tup t2 d2 =>
          refine .inr (.inr (.inr ⟨_, _, _, _, rfl, rfl, t1.sq, t2.sq, by rw [line_eq, ← d1.length, ← d2.length]; assumption, fun z => ?_, fun z1 z2 => ?_, fun z1 z2 q hq => p _ _ M (Step.fresh hq) (S.fresh hq) (S.tup hq (d1.append d2))⟩))
          · subst z
            cases d1
            exact Post.done S p (.tup t2 d2)
          · subst z2
            cases d2
            rw [List.append_nil] at p
            exact Post.done S p (.tup t1 d1)
    · cases e
  · cases e
theorem op_sub_bool : OpR X (binaryOp .Sub) (fun x y H Q => ∃ p q, x = .bl p ∧ y = .bl q ∧ Q (.int (b2i p - b2i q)) H) := by
  intro pins s σ H x y v u Q I rx ry h
  obtain ⟨i, j, rfl, rfl, q⟩ := h
  cases rx
  cases ry
  exact sub_bool ⟨.int _, H, I.tok _, ⟨_, rfl⟩, q⟩
def rSubA : R2 := fun x y H Q => rI0 (fun i j => .int (i - j)) x y H Q ∨ (fun (x y : V) (H : Hp) (Q : VK) => ∃ p q, x = .bl p ∧ y = .bl q ∧ Q (.int (b2i p - b2i q)) H) x y H Q
theorem op_subA : OpR X (binaryOp .Sub) rSubA := OpR.or op_sub op_sub_bool
theorem b_sub : BinOk X G A Wx fSub rSubA := by
  intro M sl σ H x y z v u Q S e rx ry p
  unfold fSub at e
  split at e
  · cases e
    exact .inl ⟨_, _, rx.int_inv, ry.int_inv, Post.done S p (.int _)⟩
  · cases e
    exact .inr ⟨_, _, rx.bl_inv, ry.bl_inv, Post.done S p (.int _)⟩
  · cases e
theorem DRs.nil_iff {K : PySem.W.Frag} {M : Addr → Prop} {H : Hp} {ds : List D} {vs : List V} (r : DRs K M H ds vs) : vs = [] ↔ ds = [] := by
  cases r with
  | nil => exact ⟨fun _ => rfl, fun _ => rfl⟩
  | cons _ _ => exact ⟨fun z => (nomatch z), fun z => (nomatch z)⟩
theorem DRs.rep {K : PySem.W.Frag} {M : Addr → Prop} {H : Hp} {ds : List D} {vs : List V} (r : DRs K M H ds vs) : ∀ n : Nat, DRs K M H (List.replicate n ds).flatten (List.replicate n vs).flatten
  | 0 => .nil
  | n + 1 => by
    rw [List.replicate_succ, List.replicate_succ, List.flatten_cons, List.flatten_cons]
    exact r.append (DRs.rep r n)
def rMulA (K : PySem.W.Frag) : R2 := fun x y H Q => rI CMulW (fun i j => .int (i * j)) x y H Q ∨ rRep x y H Q ∨ rRepT K x y H Q
theorem op_mulA : OpR X (binaryOp .Mult) (rMulA X.K) := OpR.or op_mulW (OpR.or op_rep op_repT)
theorem b_mul : BinOk X G A Wx fMul (rMulA X.K) := by
  intro M sl σ H x y z v u Q S e rx ry p
  unfold fMul at e
  split at e
  · split at e
    · cases e
      exact .inl ⟨_, _, rx.int_inv, ry.int_inv, by assumption, Post.done S p (.int _)⟩
    · cases e
  · split at e
    · rename_i c
      cases e
      cases rx with
      | lst t1 n1 d1 =>
        refine .inr (.inl ⟨_, _, _, rfl, ry.int_inv, t1, by omega, by omega, by rw [line_eq, ← d1.length]; exact c.2.2, fun q hq => p _ _ M (Step.fresh hq) (S.fresh hq) (S.lst hq (d1.rep _))⟩)
    · cases e
  · split at e
    · rename_i c
      cases e
      cases rx with
      | tup t1 d1 =>
        refine .inr (.inr ⟨_, _, _, rfl, ry.int_inv, t1.sq, fun z => ?_, c.2.1, c.2.2.1, by rw [← d1.length]; exact c.2.2.2, fun q hq => p _ _ M (Step.fresh hq) (S.fresh hq) (S.tup hq (d1.rep _))⟩)
        have := d1.nil_iff.mp z
        subst this
        exact absurd c.1 (by simp)
    · cases e
  · cases e
def rDivA : R2 := fun x y H Q => rI CDivW (fun i j => .int (i / j)) x y H Q ∨ rI CDivN (fun i j => .int (i.fdiv j)) x y H Q
theorem op_divA : OpR X (binaryOp .FloorDiv) rDivA := OpR.or op_fdivW op_fdivN
theorem b_div : BinOk X G A Wx fDiv rDivA := by
  intro M sl σ H x y z v u Q S e rx ry p
  unfold fDiv at e
  split at e
  · split at e
    · split at e
      · cases e
        exact .inl ⟨_, _, rx.int_inv, ry.int_inv, ⟨by assumption, by assumption⟩, Post.done S p (.int _)⟩
      · cases e
    · split at e
      · cases e
        exact .inr ⟨_, _, rx.int_inv, ry.int_inv, by assumption, Post.done S p (.int _)⟩
      · cases e
  · cases e
theorem b_mod : BinOk X G A Wx fMod (rI (fun _ j => 0 < j) fun i j => .int (i % j)) := b_int fun x y z e => by
  unfold fMod at e
  split at e
  · split at e
    · cases e
      exact ⟨_, _, rfl, rfl, by assumption, rfl⟩
    · cases e
  · cases e
theorem op_powW : OpR X (binaryOp .Pow) (rI (fun i j => 0 ≤ j ∧ (Builtin.Int.intBits i : Int) * j ≤ 2 ^ 27) fun i j => .int (i ^ j.toNat)) := opI fun _ _ _ _ _ _ _ hc q => pow_int hc.1 hc.2 q
theorem b_pow : BinOk X G A Wx fPow (rI (fun i j => 0 ≤ j ∧ (Builtin.Int.intBits i : Int) * j ≤ 2 ^ 27) fun i j => .int (i ^ j.toNat)) := b_int fun x y z e => by
  unfold fPow at e
  split at e
  · split at e
    · cases e
      exact ⟨_, _, rfl, rfl, by assumption, rfl⟩
    · cases e
  · cases e
theorem b_shl : BinOk X G A Wx fShl (rI CShl fun i j => .int (i * 2 ^ j.toNat)) := b_int fun x y z e => by
  unfold fShl at e
  split at e
  · split at e
    · cases e
      exact ⟨_, _, rfl, rfl, by assumption, rfl⟩
    · cases e
  · cases e
theorem b_shr : BinOk X G A Wx fShr (rI (fun _ j => 0 ≤ j) fun i j => .int (i / 2 ^ j.toNat)) := b_int fun x y z e => by
  unfold fShr at e
  split at e
  · split at e
    · cases e
      exact ⟨_, _, rfl, rfl, by assumption, rfl⟩
    · cases e
  · cases e
theorem b_band : BinOk X G A Wx fBand (rI0 fun i j => .int (Builtin.bitAnd i j)) := b_int0 fun x y z e => by
  unfold fBand at e
  split at e <;> cases e
  exact ⟨_, _, rfl, rfl, rfl⟩
theorem b_bor : BinOk X G A Wx fBor (rI0 fun i j => .int (Builtin.bitOr i j)) := b_int0 fun x y z e => by
  unfold fBor at e
  split at e <;> cases e
  exact ⟨_, _, rfl, rfl, rfl⟩
theorem b_xor : BinOk X G A Wx fXor (rI0 fun i j => .int (Builtin.bitXor i j)) := b_int0 fun x y z e => by
  unfold fXor at e
  split at e <;> cases e
  exact ⟨_, _, rfl, rfl, rfl⟩
theorem u_neg : UnOk X G A Wx fNeg (rU fun i => .int (-i)) := by
  intro M sl σ H x z v Q S e rx p
  unfold fNeg at e
  split at e <;> cases e
  exact ⟨_, rx.int_inv, Post.done S p (.int _)⟩
theorem b_lt : BinOk X G A Wx fLt (rI0 fun i j => .bl (decide (i < j))) := b_bool0 fun x y z e => by
  unfold fLt at e
  split at e <;> cases e
  exact ⟨_, _, rfl, rfl, rfl⟩
theorem b_le : BinOk X G A Wx fLe (rI0 fun i j => .bl (decide (i ≤ j))) := b_bool0 fun x y z e => by
  unfold fLe at e
  split at e <;> cases e
  exact ⟨_, _, rfl, rfl, rfl⟩
theorem b_gt : BinOk X G A Wx fGt (rI0 fun i j => .bl (decide (j < i))) := b_bool0 fun x y z e => by
  unfold fGt at e
  split at e <;> cases e
  exact ⟨_, _, rfl, rfl, rfl⟩
theorem b_ge : BinOk X G A Wx fGe (rI0 fun i j => .bl (decide (j ≤ i))) := b_bool0 fun x y z e => by
  unfold fGe at e
  split at e <;> cases e
  exact ⟨_, _, rfl, rfl, rfl⟩
theorem bools_lt : Bools fLt := fun x y z e => by
  unfold fLt at e
  split at e <;> cases e
  exact ⟨_, rfl⟩
theorem bools_le : Bools fLe := fun x y z e => by
  unfold fLe at e
  split at e <;> cases e
  exact ⟨_, rfl⟩
theorem bools_gt : Bools fGt := fun x y z e => by
  unfold fGt at e
  split at e <;> cases e
  exact ⟨_, rfl⟩
theorem bools_ge : Bools fGe := fun x y z e => by
  unfold fGe at e
  split at e <;> cases e
  exact ⟨_, rfl⟩
theorem bools_eq : Bools fEq := fun x y z e => by
  unfold fEq at e
  split at e <;> cases e
  exact ⟨_, rfl⟩
theorem bools_ne : Bools fNe := fun x y z e => by
  unfold fNe at e
  split at e <;> cases e
  exact ⟨_, rfl⟩
theorem bools_is : Bools fIs := fun x y z e => by
  unfold fIs at e
  split at e <;> cases e
  exact ⟨_, rfl⟩
theorem bools_isnot : Bools fIsNot := fun x y z e => by
  unfold fIsNot at e
  split at e <;> cases e
  exact ⟨_, rfl⟩
theorem bools_in : Bools fIn := fun x y z e => by
  unfold fIn at e
  split at e
  · split at e <;> cases e
    exact ⟨_, rfl⟩
  · split at e <;> cases e
    exact ⟨_, rfl⟩
  · cases e
theorem bools_notin : Bools fNotIn := fun x y z e => by
  unfold fNotIn at e
  split at e
  · split at e <;> cases e
    exact ⟨_, rfl⟩
  · split at e <;> cases e
    exact ⟨_, rfl⟩
  · cases e
/-! ### == -/
theorem lay_cons {d : D} {ds : List D} (h : PyData.canLayAll0 (d :: ds) = true) : d.canLay0 = true ∧ PyData.canLayAll0 ds = true := by simpa [PyData.canLayAll0] using h
mutual
theorem DR.dp {K : PySem.W.Frag} {M : Addr → Prop} {H : Hp} : ∀ {d : D} {v : V}, DR K M H d v → d.canLay0 = true → Dp K H v d
  | _, _, .non, _ => .non
  | _, _, .bl b, _ => .bl b
  | _, _, .int i, _ => .int i
  | _, _, .str x, _ => .str x
  | _, _, .tup t r, c => .tup t.sq (DRs.dp r c)
  | _, _, .lst t n r, c => .lst (.of t) (DRs.dp r c)
theorem DRs.dp {K : PySem.W.Frag} {M : Addr → Prop} {H : Hp} : ∀ {d : List D} {v : List V}, DRs K M H d v → PyData.canLayAll0 d = true → DpAll K H v d
  | _, _, .nil, _ => .nil
  | _, _, .cons h t, c => .cons (DR.dp h (lay_cons c).1) (DRs.dp t (lay_cons c).2)
end
theorem shaped_lay {d : D} (h : SeqAt.shaped d = true) : d.canLay0 = true := SeqAt.canLay_of_shaped h
theorem b_eq : BinOk X G A Wx fEq (rEqD X.K) := by
  intro M sl σ H x y z v u Q S e rx ry p
  unfold fEq at e
  split at e
  · rename_i c
    cases e
    exact ⟨x, y, rx.dp (shaped_lay c.1), ry.dp (shaped_lay c.2), c.1, c.2, Post.done S p (.bl _)⟩
  · cases e
theorem b_ne : BinOk X G A Wx fNe (rNeD X.K) := by
  intro M sl σ H x y z v u Q S e rx ry p
  unfold fNe at e
  split at e
  · rename_i c
    cases e
    exact ⟨x, y, rx.dp (shaped_lay c.1), ry.dp (shaped_lay c.2), c.1, c.2, Post.done S p (.bl _)⟩
  · cases e
theorem DR.isN {K : PySem.W.Frag} {M : Addr → Prop} {H : Hp} {x : D} {v : V} (r : DR K M H x v) : isNone x = decide (v = .non) := by cases r <;> rfl
theorem b_is : BinOk X G A Wx fIs (fun x y H Q => y = .non ∧ Q (.bl (decide (x = .non))) H) := by
  intro M sl σ H x y z v u Q S e rx ry p
  unfold fIs at e
  split at e
  · cases e
    refine ⟨ry.non_inv, ?_⟩
    rw [← rx.isN]
    exact Post.done S p (.bl _)
  · cases e
theorem b_isnot : BinOk X G A Wx fIsNot (fun x y H Q => y = .non ∧ Q (.bl (!decide (x = .non))) H) := by
  intro M sl σ H x y z v u Q S e rx ry p
  unfold fIsNot at e
  split at e
  · cases e
    refine ⟨ry.non_inv, ?_⟩
    rw [← rx.isN]
    exact Post.done S p (.bl _)
  · cases e
theorem DR.flat {K : PySem.W.Frag} {M : Addr → Prop} {H : Hp} {x : D} {v : V} (r : DR K M H x v) (h : flatD x = true) : flatV v = true := by cases r <;> first | rfl | cases h
theorem DRs.flat {K : PySem.W.Frag} {M : Addr → Prop} {H : Hp} : ∀ {x : List D} {v : List V}, DRs K M H x v → x.all flatD = true → v.all flatV = true
  | _, _, .nil, _ => rfl
  | _, _, .cons h t, c => by
    rw [List.all_cons, Bool.and_eq_true] at c ⊢
    exact ⟨h.flat c.1, t.flat c.2⟩
theorem eqV_eqv {K : PySem.W.Frag} {M : Addr → Prop} {H : Hp} {x y : D} {v u : V} (r : DR K M H x v) (r' : DR K M H y u) (h : flatD x = true) (h' : flatD y = true) : eqV v u = PyData.eqv x y := by
  cases r <;> cases r' <;> first
    | rfl
    | (cases h; done)
    | (cases h'; done)
    | (simp [eqV, PyData.eqv]; done)
theorem inV_any {K : PySem.W.Frag} {M : Addr → Prop} {H : Hp} {x : D} {v : V} (r : DR K M H x v) (h : flatD x = true) : ∀ {ys : List D} {us : List V}, DRs K M H ys us → ys.all flatD = true → inV v us = ys.any fun z => PyData.eqv z x
  | _, _, .nil, _ => rfl
  | _, _, .cons hd t, c => by
    rw [List.all_cons, Bool.and_eq_true] at c
    have ih := inV_any r h t c.2
    unfold inV at ih ⊢
    rw [List.any_cons, List.any_cons, ih, eqV_eqv hd r c.1 h]
def rInA (K : PySem.W.Frag) : R2 := fun x y H Q => rInD K x y H Q ∨ rIn K false x y H Q
theorem op_inA (hu : X.A.units + 65 < cLine) : OpR X (compareOp .In) (rInA X.K) := OpR.or (op_inD hu) op_in_seq
theorem b_in : BinOk X G A Wx fIn (rInA X.K) := by
  intro M sl σ H x y z v u Q S e rx ry p
  unfold fIn at e
  split at e
  · split at e
    · rename_i c
      cases e
      exact .inl ⟨x, _, rx.dp (shaped_lay c.1), ry.dp (shaped_lay c.2), c.1, c.2, Post.done S p (.bl _)⟩
    · cases e
  · split at e
    · rename_i c
      cases e
      cases ry with
      | tup t r =>
        refine .inr ⟨_, _, rfl, .inr t.sq, rx.flat c.1, r.flat c.2, ?_⟩
        rw [if_neg Bool.false_ne_true, inV_any rx c.1 r c.2]
        exact Post.done S p (.bl _)
    · cases e
  · cases e
def rNotInA (K : PySem.W.Frag) : R2 := fun x y H Q => rNotInD K x y H Q ∨ rIn K true x y H Q
theorem op_notinA (hu : X.A.units + 65 < cLine) : OpR X (compareOp .NotIn) (rNotInA X.K) := OpR.or (op_notInD hu) op_notIn_seq
theorem b_notin : BinOk X G A Wx fNotIn (rNotInA X.K) := by
  intro M sl σ H x y z v u Q S e rx ry p
  unfold fNotIn at e
  split at e
  · split at e
    · rename_i c
      cases e
      exact .inl ⟨x, _, rx.dp (shaped_lay c.1), ry.dp (shaped_lay c.2), c.1, c.2, Post.done S p (.bl _)⟩
    · cases e
  · split at e
    · rename_i c
      cases e
      cases ry with
      | tup t r =>
        refine .inr ⟨_, _, rfl, .inr t.sq, rx.flat c.1, r.flat c.2, ?_⟩
        rw [if_pos rfl, inV_any rx c.1 r c.2]
        exact Post.done S p (.bl _)
    · cases e
  · cases e
/-! ### places -/
theorem atI_len {α β : Type} {xs : List α} {ys : List β} {i : Int} {v : α} (hl : xs.length = ys.length) (h : atI xs i = some v) : ∃ j : Nat, xs[j]? = some v ∧ ∀ w, ys[j]? = some w → atI ys i = some w := by
  unfold atI at h ⊢
  rw [hl] at h
  cases e : ixN ys.length i with
  | none => rw [e] at h; cases h
  | some j =>
    rw [e] at h
    exact ⟨j, h, fun w hw => hw⟩
theorem DRs.atI {K : PySem.W.Frag} {M : Addr → Prop} {H : Hp} {xs : List D} {vs : List V} (r : DRs K M H xs vs) {i : Int} {z : D} (h : L2.atI xs i = some z) : ∃ v, L2.atI vs i = some v ∧ DR K M H z v := by
  obtain ⟨j, h1, h2⟩ := atI_len r.length h
  obtain ⟨v, h3, h4⟩ := r.get h1
  exact ⟨v, h2 v h3, h4⟩
def rIxA (K : PySem.W.Frag) : R2 := fun x y H Q => rIxL K x y H Q ∨ rIxT K x y H Q
theorem ix_A : IxR X (rIxA X.K) := IxR.or ix_list ix_tup
theorem b_ix : BinOk X G A Wx fIx (rIxA X.K) := by
  intro M sl σ H x y z v u Q S e rx ry p
  unfold fIx at e
  split at e
  · cases rx with
    | lst t n r =>
      obtain ⟨w, h1, h2⟩ := r.atI e
      exact .inl ⟨_, _, _, w, rfl, ry.int_inv, .of t, h1, Post.done S p h2⟩
  · cases rx with
    | tup t r =>
      obtain ⟨w, h1, h2⟩ := r.atI e
      exact .inr ⟨_, _, _, w, rfl, ry.int_inv, t.sq, h1, Post.done S p h2⟩
  · cases e
theorem r_ix {a b : Expr} {ea eb : Ex} {pos : Pos} (ha : PE X a (tE X.K G A Wx ea)) (hb : PE X b (tE X.K G A Wx eb)) (hs : PlainIx b := by exact fun _ _ => rfl) : PE X (.Subscript a b pos) (tE X.K G A Wx (eBin fIx ea eb)) :=
  PE.imp (pe_ix ix_A ha hb hs) fun _ _ _ h => b_ix.to h
/-! ### built-ins -/
theorem u_len : UnOk X G A Wx fLen (fun v H Q => (fun xs H Q => ∃ x n, xs = [x] ∧ LenV X.K x H n ∧ Q (.int n) H) [v] H Q) := by
  intro M sl σ H x z v Q S e rx p
  unfold fLen at e
  split at e
  · split at e
    · cases e
      rw [rx.str_inv]
      exact ⟨_, _, rfl, ⟨by rw [line_eq]; assumption, rfl⟩, Post.done S p (.int _)⟩
    · cases e
  · cases e
    cases rx with
    | lst t n r => exact ⟨_, _, rfl, .inl ⟨_, .of t, r.length⟩, Post.done S p (.int _)⟩
  · cases e
    cases rx with
    | tup t r => exact ⟨_, _, rfl, .inr ⟨_, t.sq, r.length⟩, Post.done S p (.int _)⟩
  · cases e
theorem u_abs : UnOk X G A Wx fAbs (fun v H Q => (fun xs H Q => ∃ i, xs = [.int i] ∧ Q (.int (if i < 0 then -i else i)) H) [v] H Q) := by
  intro M sl σ H x z v Q S e rx p
  unfold fAbs at e
  split at e <;> cases e
  rw [rx.int_inv]
  exact ⟨_, rfl, Post.done S p (.int _)⟩
theorem b_max2 : BinOk X G A Wx fMax2 (fun v u H Q => (fun xs H Q => ∃ i j, xs = [.int i, .int j] ∧ Q (.int (if j > i then j else i)) H) [v, u] H Q) := by
  intro M sl σ H x y z v u Q S e rx ry p
  unfold fMax2 at e
  split at e <;> cases e
  rw [rx.int_inv, ry.int_inv]
  exact ⟨_, _, rfl, Post.done S p (.int _)⟩
theorem b_min2 : BinOk X G A Wx fMin2 (fun v u H Q => (fun xs H Q => ∃ i j, xs = [.int i, .int j] ∧ Q (.int (if j < i then j else i)) H) [v, u] H Q) := by
  intro M sl σ H x y z v u Q S e rx ry p
  unfold fMin2 at e
  split at e <;> cases e
  rw [rx.int_inv, ry.int_inv]
  exact ⟨_, _, rfl, Post.done S p (.int _)⟩
theorem b_gcd : BinOk X G A Wx fGcd (fun v u H Q => rGcd [v, u] H Q) := by
  intro M sl σ H x y z v u Q S e rx ry p
  unfold fGcd at e
  split at e <;> cases e
  rw [rx.int_inv, ry.int_inv]
  exact ⟨_, _, rfl, Post.done S p (.int _)⟩
theorem u_int : UnOk X G A Wx fInt (fun v H Q => (fun xs H Q => (∃ i, xs = [.int i] ∧ Q (.int i) H) ∨ ∃ k, xs = [.bl k] ∧ Q (.int (if k then 1 else 0)) H) [v] H Q) := by
  intro M sl σ H x z v Q S e rx p
  unfold fInt at e
  split at e
  · cases e
    rw [rx.int_inv]
    exact .inl ⟨_, rfl, Post.done S p (.int _)⟩
  · cases e
    rw [rx.bl_inv]
    exact .inr ⟨_, rfl, Post.done S p (.int _)⟩
  · cases e
theorem intsOf_map : ∀ {xs : List D} {ns : List Int}, intsOf xs = some ns → xs = ns.map .int
  | [], ns, h => by cases h; rfl
  | .int i :: r, ns, h => by
    unfold intsOf at h
    cases e : intsOf r with
    | none => rw [e] at h; cases h
    | some ms =>
      rw [e] at h
      cases h
      rw [intsOf_map e]
      rfl
theorem boolsOf_map : ∀ {xs : List D} {ns : List Bool}, boolsOf xs = some ns → xs = ns.map .bool
  | [], ns, h => by cases h; rfl
  | .bool i :: r, ns, h => by
    unfold boolsOf at h
    cases e : boolsOf r with
    | none => rw [e] at h; cases h
    | some ms =>
      rw [e] at h
      cases h
      rw [boolsOf_map e]
      rfl
theorem DRs.bools_inv {K : PySem.W.Frag} {M : Addr → Prop} {H : Hp} : ∀ {ns : List Bool} {vs : List V}, DRs K M H (ns.map .bool) vs → vs = ns.map .bl
  | [], _, h => by cases h; rfl
  | n :: ns, _, h => by
    cases h with
    | cons h t => rw [DR.bl_inv h, DRs.bools_inv t]; rfl
theorem sumI_eq : ∀ ns : List Int, sumI ns = ns.sum
  | [] => rfl
  | n :: ns => by rw [List.sum_cons, ← sumI_eq ns]; rfl
/-- sum(t) of a tuple of ints -/
def rSumT (K : PySem.W.Frag) : List V → Hp → VK → Prop := fun vs H Q => ∃ (a : Addr) (ns : List Int), vs = [V.ref a] ∧ SqT K H a (ns.map V.int) ∧ Q (.int ns.sum) H
theorem cr_sumT (hc : X.calm = true) : CallR X (.builtin "sum") (rSumT X.K) := by
  intro pins s σ H vs us Q I r h
  obtain ⟨a, ns, rfl, hs, q⟩ := h
  obtain ⟨its, rv, hl, _⟩ := I.tuple hs
  rw [Vals.ref1 r]
  obtain ⟨xs, hx⟩ := rv.ints.allInts.items
  have hn : numsOf its = ns := rv.ints.numsOf
  have hl' : s.heap.IsTuple a its.toArray := hl
  have e : its.toArray.toList = its := rfl
  rw [← e, hx] at hn
  rw [hx] at hl'
  rw [nums_intItems] at hn
  refine PySem.W.ktm_sumG (I.ok.hd hc) hl' fun h' tk t' hk => ?_
  rw [preSum_eq, List.take_of_length_le (by simp), hn]
  exact ⟨.int _, H, I.kept hk, ⟨_, rfl⟩, q⟩
theorem CallR.or {f : Value} {r r' : List V → Hp → VK → Prop} (h : CallR X f r) (h' : CallR X f r') : CallR X f (fun xs H Q => r xs H Q ∨ r' xs H Q) := by
  intro pins s σ H xs us Q I rx q
  rcases q with q | q
  · exact h pins s σ H xs us Q I rx q
  · exact h' pins s σ H xs us Q I rx q
def rSumA (K : PySem.W.Frag) : List V → Hp → VK → Prop := fun xs H Q => rSum K xs H Q ∨ rSumT K xs H Q
theorem cr_sumA (hc : X.calm = true) : CallR X (.builtin "sum") (rSumA X.K) := CallR.or (cr_sum hc) (cr_sumT hc)
theorem map_some {α β : Type} {o : Option α} {f : α → β} {z : β} (h : o.map f = some z) : ∃ a, o = some a ∧ f a = z := by
  cases o with
  | none => cases h
  | some a => exact ⟨a, rfl, Option.some.inj h⟩
theorem u_sum : UnOk X G A Wx fSum (fun v H Q => rSumA X.K [v] H Q) := by
  intro M sl σ H x z v Q S e rx p
  unfold fSum at e
  split at e
  · obtain ⟨ns, h1, rfl⟩ := map_some e
    cases rx with
    | lst t n r =>
      rw [intsOf_map h1] at r
      rw [r.ints_inv] at t
      refine .inl ⟨_, ns, rfl, .of t, ?_⟩
      rw [← sumI_eq]
      exact Post.done S p (.int _)
  · obtain ⟨ns, h1, rfl⟩ := map_some e
    cases rx with
    | tup t r =>
      rw [intsOf_map h1] at r
      rw [r.ints_inv] at t
      refine .inr ⟨_, ns, rfl, t.sq, ?_⟩
      rw [← sumI_eq]
      exact Post.done S p (.int _)
  · cases e
theorem minI_mem : ∀ (r : List Int) (m : Int), (minI m r = m ∨ minI m r ∈ r) ∧ minI m r ≤ m ∧ ∀ y ∈ r, minI m r ≤ y
  | [], m => ⟨.inl rfl, Int.le_refl _, fun _ h => nomatch h⟩
  | i :: r, m => by
    obtain ⟨h1, h2, h3⟩ := minI_mem r (if i < m then i else m)
    have e : minI m (i :: r) = minI (if i < m then i else m) r := rfl
    rw [e]
    by_cases c : i < m
    · rw [if_pos c] at h1 h2 h3 ⊢
      refine ⟨.inr ?_, by omega, fun y hy => ?_⟩
      · rcases h1 with h1 | h1
        · rw [h1]; exact List.mem_cons_self
        · exact List.mem_cons_of_mem _ h1
      · rcases List.mem_cons.mp hy with rfl | hy
        · exact h2
        · exact h3 y hy
    · rw [if_neg c] at h1 h2 h3 ⊢
      refine ⟨?_, h2, fun y hy => ?_⟩
      · rcases h1 with h1 | h1
        · exact .inl h1
        · exact .inr (List.mem_cons_of_mem _ h1)
      · rcases List.mem_cons.mp hy with rfl | hy
        · omega
        · exact h3 y hy
theorem maxI_mem : ∀ (r : List Int) (m : Int), (maxI m r = m ∨ maxI m r ∈ r) ∧ m ≤ maxI m r ∧ ∀ y ∈ r, y ≤ maxI m r
  | [], m => ⟨.inl rfl, Int.le_refl _, fun _ h => nomatch h⟩
  | i :: r, m => by
    obtain ⟨h1, h2, h3⟩ := maxI_mem r (if i > m then i else m)
    have e : maxI m (i :: r) = maxI (if i > m then i else m) r := rfl
    rw [e]
    by_cases c : i > m
    · rw [if_pos c] at h1 h2 h3 ⊢
      refine ⟨.inr ?_, by omega, fun y hy => ?_⟩
      · rcases h1 with h1 | h1
        · rw [h1]; exact List.mem_cons_self
        · exact List.mem_cons_of_mem _ h1
      · rcases List.mem_cons.mp hy with rfl | hy
        · exact h2
        · exact h3 y hy
    · rw [if_neg c] at h1 h2 h3 ⊢
      refine ⟨?_, h2, fun y hy => ?_⟩
      · rcases h1 with h1 | h1
        · exact .inl h1
        · exact .inr (List.mem_cons_of_mem _ h1)
      · rcases List.mem_cons.mp hy with rfl | hy
        · omega
        · exact h3 y hy
theorem u_min : UnOk X G A Wx fMin (fun v H Q => rMin X.K [v] H Q) := by
  intro M sl σ H x z v Q S e rx p
  unfold fMin at e
  split at e
  · split at e
    · rename_i i r h1
      cases e
      cases rx with
      | lst t n d =>
        rw [intsOf_map h1] at d
        rw [d.ints_inv] at t
        refine ⟨_, i :: r, rfl, .of t, by simp, fun m hm hy => ?_⟩
        obtain ⟨q1, q2, q3⟩ := minI_mem r i
        have e1 : m ≤ minI i r := hy _ (q1.elim (fun q1 => by rw [q1]; exact List.mem_cons_self) fun q1 => List.mem_cons_of_mem _ q1)
        have e2 : minI i r ≤ m := by
          rcases List.mem_cons.mp hm with rfl | hm
          · exact q2
          · exact q3 m hm
        have e3 : m = minI i r := Int.le_antisymm e1 e2
        rw [e3]
        exact Post.done S p (.int _)
    · cases e
  · cases e
theorem u_max : UnOk X G A Wx fMax (fun v H Q => rMax X.K [v] H Q) := by
  intro M sl σ H x z v Q S e rx p
  unfold fMax at e
  split at e
  · split at e
    · rename_i i r h1
      cases e
      cases rx with
      | lst t n d =>
        rw [intsOf_map h1] at d
        rw [d.ints_inv] at t
        refine ⟨_, i :: r, rfl, .of t, by simp, fun m hm hy => ?_⟩
        obtain ⟨q1, q2, q3⟩ := maxI_mem r i
        have e1 : maxI i r ≤ m := hy _ (q1.elim (fun q1 => by rw [q1]; exact List.mem_cons_self) fun q1 => List.mem_cons_of_mem _ q1)
        have e2 : m ≤ maxI i r := by
          rcases List.mem_cons.mp hm with rfl | hm
          · exact q2
          · exact q3 m hm
        have e3 : m = maxI i r := Int.le_antisymm e2 e1
        rw [e3]
        exact Post.done S p (.int _)
    · cases e
  · cases e
theorem u_all : UnOk X G A Wx fAll (fun v H Q => rAll X.K [v] H Q) := by
  intro M sl σ H x z v Q S e rx p
  unfold fAll at e
  split at e
  · obtain ⟨ns, h1, rfl⟩ := map_some e
    cases rx with
    | lst t n r =>
      rw [boolsOf_map h1] at r
      rw [r.bools_inv] at t
      exact ⟨_, ns, rfl, .of t, Post.done S p (.bl _)⟩
  · cases e
theorem u_any : UnOk X G A Wx fAny (fun v H Q => rAny X.K [v] H Q) := by
  intro M sl σ H x z v Q S e rx p
  unfold fAny at e
  split at e
  · obtain ⟨ns, h1, rfl⟩ := map_some e
    cases rx with
    | lst t n r =>
      rw [boolsOf_map h1] at r
      rw [r.bools_inv] at t
      exact ⟨_, ns, rfl, .of t, Post.done S p (.bl _)⟩
  · cases e
/-- tuple(e) -/
theorem r_tuple {a : Expr} {ea : Ex} {p pos : Pos} (hm : X.mg "tuple" = none) (ha : PE X a (tE X.K G A Wx ea)) (hg : Gl X "tuple" := by rfl) (na : starEach [a] X.env = (false, eval a X.env) :: starEach [] X.env := by rfl) :
    PE X (.Call (.Name "tuple" p) [a] [] pos) (tE X.K G A Wx (eUn fTuple ea)) := by
  refine PE.imp (pe_tupleOf hg hm ha na) fun σ H Q ⟨M, sl, S, h⟩ => tX.bind S h fun M1 x sl1 v H1 s1 S1 r1 h1 => ?_
  cases r1 with
  | lst t n r => exact .inl ⟨_, _, rfl, .of t, fun q hq => h1 _ _ M1 (Step.fresh hq) (S1.fresh hq) (S1.tup hq r)⟩
  | tup t r => exact .inr ⟨_, _, rfl, t.sq, Post.done S1 h1 (.tup t r)⟩
  | _ => exact h1.elim
/-! ### isinstance -/
def tyD : D → String
  | .none => "NoneType" | .bool _ => "bool" | .int _ => "int" | .str _ => "str" | .list _ => "list" | .tuple _ => "tuple" | .dict _ => "dict"
theorem kit_int_int : kitB "int" "int" = some true := by decide +kernel
theorem DR.tyx {K : PySem.W.Frag} {M : Addr → Prop} {H : Hp} {x : D} {v : V} (r : DR K M H x v) : ∃ t : String, TyX K H v (.type t) ∧ t = tyD x := by
  cases r with
  | non => exact ⟨_, .base .non, rfl⟩
  | bl b => exact ⟨_, .base (.bl b), rfl⟩
  | int i => exact ⟨_, .base (.int i), rfl⟩
  | str x => exact ⟨_, .base (.str x), rfl⟩
  | tup t r =>
    rcases t with ⟨t | ⟨o, t⟩, _⟩ | ⟨o, its, n, e, c, _⟩
    · exact ⟨_, .base (.tup t), rfl⟩
    · exact ⟨_, .fTuple t, rfl⟩
    · exact ⟨_, .kTuple e c, rfl⟩
  | lst t n r => exact ⟨_, .base (.lst t), rfl⟩
  | dct e l t n r => exact ⟨_, .base (.dK t), rfl⟩
theorem kit_all (T : Ty) (x : D) : kitB (tyD x) T.nm = some (isT T x) := by
  cases T <;> cases x <;> (simp only [Ty.nm, isT, tyD]; decide +kernel)
theorem r_isi (T : Ty) {a : Expr} {ea : Ex} {x : Str} {p p2 pos : Pos} (hm : X.mg "isinstance" = none) (hmT : X.mg x = none) (hvT : bootBuiltins x = some (.type T.nm)) (ha : PE X a (tE X.K G A Wx ea)) (hg : Gl X "isinstance" := by rfl) (hgT : Gl X x := by rfl) (hn : x ≠ "__name__" := by decide) (hd : (x == ("__debug__" : Str)) = false := by decide)
    (he : starEach (a :: [.Name x p2]) X.env = (false, eval a X.env) :: starEach [.Name x p2] X.env := by rfl) (he2 : starEach ((.Name x p2) :: []) X.env = (false, eval (.Name x p2) X.env) :: starEach [] X.env := by rfl) (hpl : (backTo pos (starEach [.Name x p2] X.env)).any (·.1) = false := by rfl) :
    PE X (.Call (.Name "isinstance" p) [a, .Name x p2] [] pos) (tE X.K G A Wx (eUn (fIsi T) ea)) := by
  refine PE.imp (pe_callB call_isi hg hm (by decide +kernel) (pa_cons ha (pa_cons (pe_bltn hgT hmT hvT (v := .ty T.nm) rfl hn hd) pa_nil he2) he) (by decide) (by decide) he hpl) fun σ H Q ⟨M, sl, S, h⟩ => tX.bind S h fun M1 x sl1 v H1 s1 S1 r1 h1 => ?_
  obtain ⟨t, ty, et⟩ := r1.tyx
  subst et
  exact ⟨v, .ty T.nm, _, .type T.nm, isT T x, rfl, .ty _, ty, kit_ty (kit_all T x), Post.done S1 h1 (.bl _)⟩
end
end DE
namespace DE
open PySem PySem.Spec PyProof.Rows L2

/-! ### statements: the mirrors -/
def sSkip : Sx := .nx
def sSeq (a b : Sx) : Sx := fun sl => (a sl).seq b
def sNever : Sx := fun _ => .stuck
/-- a slot that a name's store may take -/
def free (sl : Sl) (i : Nat) : Bool := match nth sl i with
  | .own true _ => false
  | _ => true
def sSet (i : Nat) (e : Ex) : Sx := fun sl => (e sl).bindS fun x sl => if free sl i = true then .nx (sl.set i (.d x)) else .stuck
def sNew (i : Nat) (es : Exs) : Sx := fun sl => (es sl).bindS fun xs sl => if xs.length ≤ 16777216 ∧ free sl i = true then .nx (sl.set i (.own false (.list xs))) else .stuck
def sNewD (i : Nat) : Sx := fun sl => if free sl i = true then .nx (sl.set i (.own false (.dict []))) else .stuck
def sIf (t : Tx) (a b : Sx) : Sx := fun sl => (t sl).bindS fun c sl => match c with
  | true => a sl
  | false => b sl
def sRet (e : Ex) : Sx := fun sl => (e sl).bindS fun x sl => .rt x sl
def sRetN : Sx := fun sl => .rt .none sl
def sExpr (e : Ex) : Sx := fun sl => (e sl).bindS fun _ sl => .nx sl
def sBk : Sx := .bk
def sCt : Sx := .ct
def sWhile : Nat → Tx → Sx → Sx
  | 0, _, _ => fun _ => .stuck
  | n + 1, t, b => fun sl => (t sl).bindS fun c sl => match c with
    | true => match b sl with
      | .nx sl' => sWhile n t b sl'
      | .ct sl' => sWhile n t b sl'
      | .bk sl' => .nx sl'
      | .rt x sl' => .rt x sl'
      | .exc x => .exc x
      | .stuck => .stuck
    | false => .nx sl
def sLoop : List D → (D → Sl → Option Sl) → Sx → Sx
  | [], _, _ => .nx
  | x :: r, g, b => fun sl => match g x sl with
    | none => .stuck
    | some sl1 => match b sl1 with
      | .nx sl' => sLoop r g b sl'
      | .ct sl' => sLoop r g b sl'
      | .bk sl' => .nx sl'
      | .rt x sl' => .rt x sl'
      | .exc x => .exc x
      | .stuck => .stuck
def sFor (items : Exs) (g : D → Sl → Option Sl) (b : Sx) : Sx := fun sl => (items sl).bindS fun ds sl => sLoop ds g b sl
def gNm (i : Nat) : D → Sl → Option Sl := fun x sl => if free sl i = true then some (sl.set i (.d x)) else none
def gsNil : List D → Sl → Option Sl := fun xs sl => match xs with
  | [] => some sl
  | _ => none
def gsCons (g : D → Sl → Option Sl) (r : List D → Sl → Option Sl) : List D → Sl → Option Sl := fun xs sl => match xs with
  | x :: xs => match g x sl with
    | some sl => r xs sl
    | none => none
  | _ => none
def gTp (n : Nat) (r : List D → Sl → Option Sl) : D → Sl → Option Sl := fun x sl => match x with
  | .tuple xs => if xs.length = n then r xs sl else none
  | _ => none
def sAsg (e : Ex) (g : D → Sl → Option Sl) : Sx := fun sl => (e sl).bindS fun x sl => match g x sl with
  | some sl => .nx sl
  | none => .stuck
def sAug (i : Nat) (f : D → D → Option D) (e : Ex) : Sx := fun sl => match nth sl i with
  | .d x => (e sl).bindS fun y sl => match f x y with
    | some z => if free sl i = true then .nx (sl.set i (.d z)) else .stuck
    | none => .stuck
  | _ => .stuck
/-- i, j = a, b -/
def sPar (i j : Nat) (a b : Ex) : Sx := fun sl => (a sl).bindS fun x sl => (b sl).bindS fun y sl => if free sl i = true ∧ free (sl.set i (.d x)) j = true then .nx ((sl.set i (.d x)).set j (.d y)) else .stuck
/-- i, j = a, [] -/
def sParN (i j : Nat) (a : Ex) : Sx := fun sl => (a sl).bindS fun x sl => if free sl i = true ∧ free (sl.set i (.d x)) j = true then .nx ((sl.set i (.d x)).set j (.own false (.list []))) else .stuck
/-- i, j = {}, b -/
def sParD (i j : Nat) (b : Ex) : Sx := fun sl => (b sl).bindS fun x sl => if free sl i = true ∧ free (sl.set i (.own false (.dict []))) j = true then .nx ((sl.set i (.own false (.dict []))).set j (.d x)) else .stuck
def isOL (sl : Sl) (i : Nat) : Bool := match nth sl i with
  | .own _ (.list _) => true
  | _ => false
/-- x.append(e), x.extend(e), x an owned list -/
def eApp (i : Nat) (e : Ex) : Ex := fun sl => if isOL sl i = true then (e sl).bind fun x sl => (match nth sl i with
  | .own b (.list xs) => if xs.length < 16777216 then .ok .none (sl.set i (.own b (.list (xs ++ [x])))) else .stuck
  | _ => .stuck) else .stuck
def eExt (i : Nat) (e : Ex) : Ex := fun sl => if isOL sl i = true then (e sl).bind fun x sl => (match nth sl i, x with
  | .own b (.list xs), .list ys => if xs.length + ys.length ≤ 16777216 then .ok .none (sl.set i (.own b (.list (xs ++ ys)))) else .stuck
  | _, _ => .stuck) else .stuck
/-- x[k] = e -/
def sPut (i : Nat) (k e : Ex) : Sx := fun sl => (e sl).bindS fun x sl => if isOL sl i = true then (k sl).bindS fun y sl => (match nth sl i, y with
  | .own b (.list xs), .int n => (match ixN xs.length n with
    | some j => .nx (sl.set i (.own b (.list (xs.set j x))))
    | none => .stuck)
  | _, _ => .stuck) else .stuck
/-- x[k], x an owned list -/
def eIxO (i : Nat) (k : Ex) : Ex := fun sl => if isOL sl i = true then (k sl).bind fun y sl => (match nth sl i, y with
  | .own _ (.list xs), .int n => optR (atI xs n) sl
  | _, _ => .stuck) else .stuck
def eLenO (i : Nat) : Ex := fun sl => match nth sl i with
  | .own _ (.list xs) => .ok (.int xs.length) sl
  | .scr ns => .ok (.int ns.length) sl
  | _ => .stuck
def isScr (sl : Sl) (i : Nat) : Bool := match nth sl i with
  | .scr _ => true
  | _ => false
def eIxS (i : Nat) (k : Ex) : Ex := fun sl => if isScr sl i = true then (k sl).bind fun y sl => (match nth sl i, y with
  | .scr ns, .int n => optR ((atI ns n).map .int) sl
  | _, _ => .stuck) else .stuck
/-- x.setdefault(k, v), x an owned dict -/
def isOD (sl : Sl) (i : Nat) : Bool := match nth sl i with
  | .own _ (.dict _) => true
  | _ => false
def keyOf : D → Option Key
  | .int i => some (.inl i)
  | .str x => some (.inr x)
  | _ => none
def kEq : D → Key → Bool
  | .int i, .inl j => i == j
  | .str x, .inr y => decide (x = y)
  | _, _ => false
def lookK (k : Key) : List (D × D) → Option D
  | [] => none
  | (j, v) :: r => if kEq j k = true then some v else lookK k r
def eSetd (i : Nat) (k v : Ex) : Ex := fun sl => if isOD sl i = true then (k sl).bind fun x sl => (v sl).bind fun y sl => (match nth sl i, keyOf x with
  | .own b (.dict m), some n => if m.length < 16777216 then (match lookK n m with
    | some z => .ok z sl
    | none => .ok y (sl.set i (.own b (.dict (m ++ [(kD n, y)]))))) else .stuck
  | _, _ => .stuck) else .stuck
def eLenOD (i : Nat) : Ex := fun sl => match nth sl i with
  | .own _ (.dict m) => .ok (.int m.length) sl
  | _ => .stuck

section
variable {X : Cx} {G : Gb} {A : Act} {Wx : WX} {a b c : Expr} {ea eb ec : Ex} {ta : Tx} {sa sb : Sx} {ga : D → Sl → Option Sl} {pos : Pos} {st : Stmt} {ba bb : List Stmt}

/-! ### blocks -/
theorem q_nil : PSs X [] (tS X.K G A Wx sSkip) := PSs.imp pss_nil fun E σ H ⟨M, sl, S, h⟩ => h σ H M (Step.refl M H) S
theorem q_one (h : PS X st (tS X.K G A Wx sa)) : PSs X [st] (tS X.K G A Wx sa) := pss_one h
theorem q_cons (h : PS X st (tS X.K G A Wx sa)) (hr : PSs X ba (tS X.K G A Wx sb)) : PSs X (st :: ba) (tS X.K G A Wx (sSeq sa sb)) := by
  refine PSs.imp (pss_cons h hr) fun E σ H ⟨M, sl, S, h⟩ => ⟨M, sl, S, ?_⟩
  have h' : PostS X.K G A Wx M H ((sa sl).seq sb) E := h
  cases e : sa sl with
  | nx sl' =>
    rw [e] at h'
    exact fun σ' H' M' s S' => ⟨M', sl', S', PostS.step s h'⟩
  | rt x sl' => rw [e] at h'; exact h'
  | bk sl' => rw [e] at h'; exact h'
  | ct sl' => rw [e] at h'; exact h'
  | exc x => rw [e] at h'; exact h'
  | stuck => rw [e] at h'; exact h'
theorem q_never : PSs X ba (tS X.K G A Wx sNever) := PSs.imp pss_never fun E σ H ⟨M, sl, S, h⟩ => h
theorem s_never : PS X st (tS X.K G A Wx sNever) := PS.imp ps_never fun E σ H ⟨M, sl, S, h⟩ => h
theorem s_pass : PS X (.Pass pos) (tS X.K G A Wx sSkip) := PS.imp ps_pass fun E σ H ⟨M, sl, S, h⟩ => h σ H M (Step.refl M H) S
theorem s_break : PS X (.Break pos) (tS X.K G A Wx sBk) := PS.imp ps_break fun E σ H ⟨M, sl, S, h⟩ => h σ H M (Step.refl M H) S
theorem s_cont : PS X (.Continue pos) (tS X.K G A Wx sCt) := PS.imp ps_continue fun E σ H ⟨M, sl, S, h⟩ => h σ H M (Step.refl M H) S
theorem s_ret (ha : PE X a (tE X.K G A Wx ea)) : PS X (.Return (some a) pos) (tS X.K G A Wx (sRet ea)) :=
  PS.imp (ps_ret ha) fun E σ H ⟨M, sl, S, h⟩ => tX.bindS S h fun M1 x sl1 v H1 s1 S1 r1 h1 => h1 v σ H1 M1 (Step.refl M1 H1) S1 r1
theorem s_retN : PS X (.Return none pos) (tS X.K G A Wx sRetN) := PS.imp ps_retN fun E σ H ⟨M, sl, S, h⟩ => h .non σ H M (Step.refl M H) S .non
theorem s_expr (ha : PE X a (tE X.K G A Wx ea)) (hs : swapsWith a none pos.line X.env = pure false := by rfl) : PS X (.Expr a pos) (tS X.K G A Wx (sExpr ea)) :=
  PS.imp (ps_expr ha hs) fun E σ H ⟨M, sl, S, h⟩ => tX.bindS S h fun M1 x sl1 v H1 s1 S1 r1 h1 => h1 σ H1 M1 (Step.refl M1 H1) S1
theorem s_if (hc : PT X c (tT X.K G A Wx ta)) (ha : PSs X ba (tS X.K G A Wx sa)) (hb : PSs X bb (tS X.K G A Wx sb)) : PS X (.If c ba bb pos) (tS X.K G A Wx (sIf ta sa sb)) := by
  refine PS.imp (ps_if hc ha hb) fun E σ H ⟨M, sl, S, h⟩ => tX.bindS S h fun M1 x sl1 v H1 s1 S1 r1 h1 => ?_
  subst r1
  cases x with
  | true => exact iteT ⟨M1, sl1, S1, h1⟩
  | false => exact iteF ⟨M1, sl1, S1, h1⟩
/-! ### stores -/
theorem free_ne {sl : Sl} {i : Nat} (h : free sl i = true) : ∀ c, sl[i]? ≠ some (.own true c) := fun c z => by
  have hi : nth sl i = .own true c := by
    have hlt := (List.getElem?_eq_some_iff.mp z).1
    have : ∀ (sl : Sl) (i : Nat) (w : W), sl[i]? = some w → nth sl i = w := by
      intro sl
      induction sl with
      | nil => intro i w h; simp at h
      | cons x r ih =>
        intro i w h
        cases i with
        | zero => simpa [nth] using h
        | succ n => exact ih n w (by simpa using h)
    exact this sl i _ z
  unfold free at h
  rw [hi] at h
  exact absurd h Bool.false_ne_true
theorem s_set (i : Nat) {x : Str} {pos' : Pos} (hN : X.N.Nodup) (ha : PE X a (tE X.K G A Wx ea)) (hi : X.N[i]? = some x := by rfl) (hx : Loc X.env.scope x := by first | exact Or.inl rfl | exact Or.inr rfl) (hs : swapsWith a (some (.Name x pos')) pos.line X.env = pure false := by rfl)
    (hf : X.fn x = true ∨ X.env.scope.names.lookup x = some .local := by first | exact .inl rfl | exact .inr rfl) : PS X (.Assign [.Name x pos'] a pos) (tS X.K G A Wx (sSet i ea)) := by
  refine PS.imp (ps_set hN hi hx ha hs hf) fun E σ H ⟨M, sl, S, h⟩ => tX.bindS S h fun M1 x sl1 v H1 s1 S1 r1 h1 => ?_
  by_cases c : free sl1 i = true
  · rw [if_pos c] at h1
    exact h1 _ H1 M1 (Step.refl M1 H1) (S1.store r1 (free_ne c))
  · rw [if_neg c] at h1
    exact h1.elim
theorem s_new (i : Nat) {es : List Expr} {ees : Exs} {x : Str} {pos' p2 : Pos} (hN : X.N.Nodup) (ha : PA X es (tA X.K G A Wx ees)) (hi : X.N[i]? = some x := by rfl) (hx : Loc X.env.scope x := by first | exact Or.inl rfl | exact Or.inr rfl) (hs : swapsWith (.List es p2) (some (.Name x pos')) pos.line X.env = pure false := by rfl)
    (hf : X.fn x = true ∨ X.env.scope.names.lookup x = some .local := by first | exact .inl rfl | exact .inr rfl) : PS X (.Assign [.Name x pos'] (.List es p2) pos) (tS X.K G A Wx (sNew i ees)) := by
  refine PS.imp (ps_set hN hi hx (pe_lst ha) hs hf) fun E σ H ⟨M, sl, S, h⟩ => tX.bindS S h fun M1 xs sl1 v H1 s1 S1 r1 h1 => ?_
  by_cases c : xs.length ≤ 16777216 ∧ free sl1 i = true
  · rw [if_pos c] at h1
    refine ⟨by rw [← r1.length, line_eq]; exact c.1, fun p hp => ?_⟩
    obtain ⟨M2, s2, S2, m2, n2, no, dr⟩ := S1.newOwn (o := .lst v) hp fx_lst
    have mr : MR X.K M2 (upd H1 p (.lst v)) (.list xs) p := .inl ⟨xs, v, rfl, upd_same, r1.step s2⟩
    exact h1 _ _ M2 s2 (S2.storeOwn mr m2 n2 no (free_ne c.2))
  · rw [if_neg c] at h1
    exact h1.elim
theorem s_newD (i : Nat) {x : Str} {pos' p2 : Pos} (hN : X.N.Nodup) (hi : X.N[i]? = some x := by rfl) (hx : Loc X.env.scope x := by first | exact Or.inl rfl | exact Or.inr rfl) (hs : swapsWith (.Dict [] [] p2) (some (.Name x pos')) pos.line X.env = pure false := by rfl)
    (hf : X.fn x = true ∨ X.env.scope.names.lookup x = some .local := by first | exact .inl rfl | exact .inr rfl) : PS X (.Assign [.Name x pos'] (.Dict [] [] p2) pos) (tS X.K G A Wx (sNewD i)) := by
  refine PS.imp (ps_set hN hi hx pe_dnewK hs hf) fun E σ H ⟨M, sl, S, h⟩ p hp => ?_
  have h' : PostS X.K G A Wx M H (if free sl i = true then .nx (sl.set i (.own false (.dict []))) else .stuck) E := h
  by_cases c : free sl i = true
  · rw [if_pos c] at h'
    obtain ⟨M2, s2, S2, m2, n2, no, dr⟩ := S.newOwn (o := .dK []) hp fx_dK
    have mr : MR X.K M2 (upd H p (.dK [])) (.dict []) p := .inr ⟨[], [], [], rfl, rfl, upd_same, .nil⟩
    exact h' _ _ M2 s2 (S2.storeOwn mr m2 n2 no (free_ne c))
  · rw [if_neg c] at h'
    exact h'.elim
/-- a, b = x, y: plain names of the def alone -/
theorem s_par (i j : Nat) {x y : Str} {px py pt : Pos} {kt k2 : Nat} {pt2 : Pos} (hc : X.calm = true) (hN : X.N.Nodup) (ha : PE X a (tE X.K G A Wx ea)) (hb : PE X b (tE X.K G A Wx eb)) (hi : X.N[i]? = some x := by rfl) (hj : X.N[j]? = some y := by rfl) (hij : i ≠ j := by decide)
    (hx : X.env.scope.names.lookup x = some .local := by rfl) (hy : X.env.scope.names.lookup y = some .local := by rfl)
    (hw : swappedStores [.Tuple [.Name x px, .Name y py] kt pt] (.Tuple [a, b] k2 pt2) X.env = pure (some [x, y]) := by rfl)
    (hs : swapsWithSole [.Tuple [.Name x px, .Name y py] kt pt] (.Tuple [a, b] k2 pt2) pos.line X.env = pure false := by rfl)
    (he : starEach (a :: [b]) X.env = (false, eval a X.env) :: starEach [b] X.env := by rfl) (he2 : starEach (b :: []) X.env = (false, eval b X.env) :: starEach [] X.env := by rfl) :
    PS X (.Assign [.Tuple [.Name x px, .Name y py] kt pt] (.Tuple [a, b] k2 pt2) pos) (tS X.K G A Wx (sPar i j ea eb)) := by
  refine PS.imp (ps_par hc hN hi hj hij hx hy (pa_cons ha (pa_cons hb pa_nil he2) he) hw hs) fun E σ H ⟨M, sl, S, h⟩ => tX.bindS S h fun M1 x1 sl1 v H1 s1 S1 r1 h1 => tX.bindS S1 h1 fun M2 x2 sl2 u H2 s2 S2 r2 h2 => ?_
  by_cases c : free sl2 i = true ∧ free (sl2.set i (.d x1)) j = true
  · rw [if_pos c] at h2
    exact ⟨v, u, rfl, h2 _ H2 M2 (Step.refl M2 H2) ((S2.store (r1.step s2) (free_ne c.1)).store r2 (free_ne c.2))⟩
  · rw [if_neg c] at h2
    exact h2.elim
theorem s_parN (i j : Nat) {x y : Str} {px py pt p2 : Pos} {kt k2 : Nat} {pt2 : Pos} (hc : X.calm = true) (hN : X.N.Nodup) (ha : PE X a (tE X.K G A Wx ea)) (hi : X.N[i]? = some x := by rfl) (hj : X.N[j]? = some y := by rfl) (hij : i ≠ j := by decide)
    (hx : X.env.scope.names.lookup x = some .local := by rfl) (hy : X.env.scope.names.lookup y = some .local := by rfl)
    (hw : swappedStores [.Tuple [.Name x px, .Name y py] kt pt] (.Tuple [a, .List [] p2] k2 pt2) X.env = pure (some [x, y]) := by rfl)
    (hs : swapsWithSole [.Tuple [.Name x px, .Name y py] kt pt] (.Tuple [a, .List [] p2] k2 pt2) pos.line X.env = pure false := by rfl)
    (he : starEach (a :: [.List [] p2]) X.env = (false, eval a X.env) :: starEach [.List [] p2] X.env := by rfl) (he2 : starEach (.List [] p2 :: []) X.env = (false, eval (.List [] p2) X.env) :: starEach [] X.env := by rfl) :
    PS X (.Assign [.Tuple [.Name x px, .Name y py] kt pt] (.Tuple [a, .List [] p2] k2 pt2) pos) (tS X.K G A Wx (sParN i j ea)) := by
  refine PS.imp (ps_par hc hN hi hj hij hx hy (pa_cons ha (pa_cons (pe_lst pa_nil) pa_nil he2) he) hw hs) fun E σ H ⟨M, sl, S, h⟩ => tX.bindS S h fun M1 x1 sl1 v H1 s1 S1 r1 h1 => ?_
  refine ⟨Nat.zero_le _, fun p hp => ?_⟩
  by_cases c : free sl1 i = true ∧ free (sl1.set i (.d x1)) j = true
  · rw [if_pos c] at h1
    obtain ⟨M2, s2, S2, m2, n2, no, dr⟩ := S1.newOwn (o := .lst []) hp fx_lst
    have mr : MR X.K M2 (upd H1 p (.lst [])) (.list []) p := .inl ⟨[], [], rfl, upd_same, .nil⟩
    have S3 := S2.store (i := i) (dr _ _ r1) (free_ne c.1)
    refine ⟨v, .ref p, rfl, h1 _ _ M2 s2 (S3.storeOwn mr m2 n2 (fun k b' c' e q => ?_) (free_ne c.2))⟩
    rcases get_set e with ⟨_, z⟩ | ⟨hne, z⟩
    · cases z
    · rw [List.getElem?_set_ne (Ne.symm hne)] at q
      exact no k _ _ z q
  · rw [if_neg c] at h1
    exact h1.elim
/-! ### targets -/
/-- all slots but those at js are as they were -/
def SameBut (js : List Nat) (σ σ' : L2.St) : Prop := σ'.length = σ.length ∧ ∀ i, i ∉ js → σ'[i]? = σ[i]?
theorem SameBut.refl (js : List Nat) (σ : L2.St) : SameBut js σ σ := ⟨rfl, fun _ _ => rfl⟩
theorem SameBut.trans {js : List Nat} {σ σ1 σ2 : L2.St} (a : SameBut js σ σ1) (b : SameBut js σ1 σ2) : SameBut js σ σ2 := ⟨b.1.trans a.1, fun i h => (b.2 i h).trans (a.2 i h)⟩
def tG (K : PySem.W.Frag) (G : Gb) (A : Act) (js : List Nat) (g : D → Sl → Option Sl) : TG := fun v σ H Q => ∃ M sl x, StR K G A M sl σ H ∧ DR K M H x v ∧ ∃ sl', g x sl = some sl' ∧ ∀ σ' M', SameBut js σ σ' → Step M H M' H → StR K G A M' sl' σ' H → Q σ' H
def tGs (K : PySem.W.Frag) (G : Gb) (A : Act) (js : List Nat) (g : List D → Sl → Option Sl) : TGs := fun vs σ H Q => ∃ M sl xs, StR K G A M sl σ H ∧ DRs K M H xs vs ∧ ∃ sl', g xs sl = some sl' ∧ ∀ σ' M', SameBut js σ σ' → Step M H M' H → StR K G A M' sl' σ' H → Q σ' H
theorem PG.imp {t t' : TG} {tg : Expr} (h : PG X tg t) (k : ∀ v σ H Q, t' v σ H Q → t v σ H Q) : PG X tg t' := ⟨fun pins s σ H v u Q I r hw => h.run pins s σ H v u Q I r (k v σ H Q hw)⟩
theorem PGs.imp {t t' : TGs} {tg : List Expr} (h : PGs X tg t) (k : ∀ v σ H Q, t' v σ H Q → t v σ H Q) : PGs X tg t' := ⟨fun pins s σ H v u Q I r hw => h.run pins s σ H v u Q I r (k v σ H Q hw)⟩
theorem g_name (js : List Nat) (i : Nat) {x : Str} (hN : X.N.Nodup) (hj : i ∈ js := by decide) (hi : X.N[i]? = some x := by rfl) (hx : Loc X.env.scope x := by first | exact Or.inl rfl | exact Or.inr rfl) (hf : X.fn x = true ∨ X.env.scope.names.lookup x = some .local := by first | exact .inl rfl | exact .inr rfl) :
    PG X (.Name x pos) (tG X.K G A js (gNm i)) := by
  refine PG.imp (pg_name hN hi hx hf) fun v σ H Q ⟨M, sl, x, S, r, sl', e, h⟩ => ?_
  unfold gNm at e
  by_cases c : free sl i = true
  · rw [if_pos c] at e
    cases e
    exact h _ M ⟨List.length_set, fun k hk => List.getElem?_set_ne (fun z => hk (by rw [← z]; exact hj))⟩ (Step.refl M H) (S.store r (free_ne c))
  · rw [if_neg c] at e; cases e
variable {js : List Nat} {gr : List D → Sl → Option Sl} {es : List Expr} {tg : Expr}
theorem gs_nil : PGs X [] (tGs X.K G A js gsNil) := by
  refine PGs.imp pgs_nil fun v σ H Q ⟨M, sl, xs, S, r, sl', e, h⟩ => ?_
  cases xs with
  | nil =>
    cases e
    cases r
    exact ⟨rfl, h σ M (SameBut.refl js σ) (Step.refl M H) S⟩
  | cons _ _ => cases e
theorem gs_cons (h1 : PG X tg (tG X.K G A js ga)) (h2 : PGs X es (tGs X.K G A js gr)) (hs : (assignEach (tg :: es) X.env).map (·.2) = assign tg X.env :: (assignEach es X.env).map (·.2) := by rfl) : PGs X (tg :: es) (tGs X.K G A js (gsCons ga gr)) := by
  refine PGs.imp (pgs_cons h1 h2 hs) fun v σ H Q ⟨M, sl, xs, S, r, sl', e, h⟩ => ?_
  cases xs with
  | nil => cases e
  | cons x xs =>
    cases r with
    | cons r1 r2 =>
      have e' : (match ga x sl with
        | some sl => gr xs sl
        | none => none) = some sl' := e
      cases q : ga x sl with
      | none => rw [q] at e'; cases e'
      | some sl1 =>
        rw [q] at e'
        exact ⟨_, _, rfl, M, sl, x, S, r1, sl1, q, fun σ' M' b1 s S' => ⟨M', sl1, xs, S', r2.step s, sl', e', fun σ2 M2 b2 s2 S2 => h σ2 M2 (b1.trans b2) (s.trans s2) S2⟩⟩
theorem g_tup {k n : Nat} (hc : X.calm = true) (h : PGs X es (tGs X.K G A js gr)) (hn : (assignEach es X.env).length = n := by rfl) (hst : (assignEach es X.env).findIdx? (·.1) = none := by rfl) : PG X (.Tuple es k pos) (tG X.K G A js (gTp n gr)) := by
  refine PG.imp (pg_tup hc h hn hst) fun v σ H Q ⟨M, sl, x, S, r, sl', e, h⟩ => ?_
  cases r with
  | @tup _ ds vs t r =>
    have e' : (if ds.length = n then gr ds sl else none) = some sl' := e
    by_cases c : ds.length = n
    · rw [if_pos c] at e'
      exact ⟨_, _, rfl, t.sq, by rw [← r.length]; exact c, M, sl, ds, S, r, sl', e', h⟩
    · rw [if_neg c] at e'; cases e'
  | _ => cases e
theorem s_asg {tg : Expr} (ha : PE X a (tE X.K G A Wx ea)) (hg : PG X tg (tG X.K G A js ga)) (hs : swapsWithSole [tg] a pos.line X.env = pure false := by rfl) (hw : swappedStores [tg] a X.env = pure none := by rfl)
    (h1 : (assignEach [tg] X.env).map (·.2) = [assign tg X.env] := by rfl) : PS X (.Assign [tg] a pos) (tS X.K G A Wx (sAsg ea ga)) := by
  refine PS.imp (ps_asg ha hg hs hw h1) fun E σ H ⟨M, sl, S, h⟩ => tX.bindS S h fun M1 x sl1 v H1 s1 S1 r1 h1 => ?_
  cases e : ga x sl1 with
  | none => rw [e] at h1; exact h1.elim
  | some sl2 =>
    rw [e] at h1
    exact ⟨M1, sl1, x, S1, r1, sl2, e, fun σ' M' _ s S' => h1 σ' H1 M' s S'⟩
/-! ### name op= e -/
theorem s_aug (i : Nat) {x : Str} {pos' : Pos} {op : Operator} {f : D → D → Option D} {r : R2} (hN : X.N.Nodup) (ho : OpR X (inplaceOp op) r) (hf : BinOk X G A Wx f r) (ha : PE X a (tE X.K G A Wx ea)) (hi : X.N[i]? = some x := by rfl) (hx : Loc X.env.scope x := by first | exact Or.inl rfl | exact Or.inr rfl)
    (hfn : X.fn x = true ∨ X.env.scope.names.lookup x = some .local := by first | exact .inl rfl | exact .inr rfl) : PS X (.AugAssign (.Name x pos') op a pos) (tS X.K G A Wx (sAug i f ea)) := by
  refine PS.imp (ps_aug hN hi hx ha ho hfn) fun E σ H ⟨M, sl, S, h⟩ => ?_
  have h' : PostS X.K G A Wx M H (match nth sl i with
    | .d x => (ea sl).bindS fun y sl => match f x y with
      | some z => if free sl i = true then .nx (sl.set i (.d z)) else .stuck
      | none => .stuck
    | _ => .stuck) E := h
  cases e : nth sl i with
  | d x =>
    rw [e] at h'
    obtain ⟨v, e1, r⟩ := S.val i x (nth_d e)
    refine ⟨v, e1, tX.bindS S h' fun M1 y sl1 u H1 s1 S1 r1 h1 => ?_⟩
    cases e2 : f x y with
    | none => rw [e2] at h1; exact h1.elim
    | some z =>
      rw [e2] at h1
      refine hf M1 sl1 σ H1 x y z v u _ S1 e2 (r.step s1) r1 fun w H2 M2 s2 S2 r2 => ?_
      have h1 : PostS X.K G A Wx M1 H1 (if free sl1 i = true then RS.nx (sl1.set i (W.d z)) else RS.stuck) E := h1
      by_cases c : free sl1 i = true
      · rw [if_pos c] at h1
        exact h1 _ H2 M2 s2 (S2.store r2 (free_ne c))
      · rw [if_neg c] at h1
        exact h1.elim
  | un => rw [e] at h'; exact h'.elim
  | own _ _ => rw [e] at h'; exact h'.elim
  | scr _ => rw [e] at h'; exact h'.elim
/-! ### while -/
theorem s_while (n : Nat) (hp : PassesOwn (model X.prog X.w) X.A X.env X.xe) (hc : PT X c (tT X.K G A Wx ta)) (hb : PSs X ba (tS X.K G A Wx sa)) : PS X (.While c ba [] pos) (tS X.K G A Wx (sWhile n ta sa)) := by
  refine PS.imp (ps_while hp hc hb) fun E σ H h => ?_
  refine ⟨fun m σ H => ∃ M sl, StR X.K G A M sl σ H ∧ PostS X.K G A Wx M H (sWhile m ta sa sl) E, ⟨n, h⟩, fun m σ H ⟨M, sl, S, h⟩ => ?_⟩
  cases m with
  | zero => exact h.elim
  | succ m =>
    refine tX.bindS S h fun M1 x sl1 v H1 s1 S1 r1 h1 => ?_
    subst r1
    cases x with
    | false => exact iteF (h1 σ H1 M1 (Step.refl M1 H1) S1)
    | true =>
      refine iteT ⟨fun σ' H' => ∃ M sl, StR X.K G A M sl σ' H' ∧ PostS X.K G A Wx M H' (sWhile m ta sa sl) E, fun σ' H' q => ⟨m, Nat.lt_succ_self m, q⟩, M1, sl1, S1, ?_⟩
      have h2 : PostS X.K G A Wx M1 H1 (match sa sl1 with
        | .nx sl' => sWhile m ta sa sl'
        | .ct sl' => sWhile m ta sa sl'
        | .bk sl' => .nx sl'
        | .rt x sl' => .rt x sl'
        | .exc x => .exc x
        | .stuck => .stuck) E := h1
      cases e : sa sl1 with
      | nx sl' => rw [e] at h2; exact fun σ' H' M' s S' => ⟨M', sl', S', PostS.step s h2⟩
      | ct sl' => rw [e] at h2; exact fun σ' H' M' s S' => ⟨M', sl', S', PostS.step s h2⟩
      | bk sl' => rw [e] at h2; exact h2
      | rt x sl' => rw [e] at h2; exact h2
      | exc x => rw [e] at h2; exact h2
      | stuck => rw [e] at h2; exact h2
/-! ### for -/
/-- the walk J yields the data ds, wherever one comes to from (M, H) -/
def Yields (K : PySem.W.Frag) (M : Addr → Prop) (H : Hp) (ds : List D) (J : It) : Prop := ∀ M' H', Step M H M' H' → Live M' H' →
  (∀ (i : Nat) (x : D), ds[i]? = some x → J.go i H' ∧ ∀ v H'', J.yld i H' v H'' → (∀ a u, H' a = some u → H'' a = some u) ∧ DR K M' H'' x v) ∧ J.stop ds.length H'
theorem Yields.step {K : PySem.W.Frag} {M M1 : Addr → Prop} {H H1 : Hp} {ds : List D} {J : It} (s : Step M H M1 H1) (y : Yields K M H ds J) : Yields K M1 H1 ds J := fun M' H' t l => y M' H' (s.trans t) l
abbrev tI (K : PySem.W.Frag) (G : Gb) (A : Act) (Wx : WX) (e : Exs) : TI := tX K G A Wx (Yields K) e
theorem s_for {iter : Expr} {ei : Exs} (hp : PassesOwn (model X.prog X.w) X.A X.env X.xe) (hc : X.calm = true) (hi : PI X tg iter (tI X.K G A Wx ei)) (hg : PG X tg (tG X.K G A js ga)) (hb : PSs X ba (tS X.K G A Wx sa))
    (hs : ∀ x, foldedSetIterable iter X.env x = pure x := by intro _; rfl) : PS X (.For tg iter ba [] pos) (tS X.K G A Wx (sFor ei ga sa)) := by
  refine PS.imp (ps_for hp hc hi hg hb hs) fun E σ H ⟨M, sl, S, h⟩ => tX.bindS S h fun M1 ds sl1 J H1 s1 S1 y h1 => ?_
  refine ⟨fun i m σ H => m = ds.length - i ∧ i ≤ ds.length ∧ ∃ M sl, Step M1 H1 M H ∧ StR X.K G A M sl σ H ∧ PostS X.K G A Wx M H (sLoop (ds.drop i) ga sa sl) E, ⟨ds.length, by simp, Nat.zero_le _, M1, sl1, Step.refl M1 H1, S1, h1⟩, ?_⟩
  rintro i m σ H ⟨rfl, hil, M, sl, s, S, h⟩
  obtain ⟨yg, ys⟩ := y M H s S.out.live
  by_cases hlt : i < ds.length
  · have ex : ds[i]? = some ds[i] := List.getElem?_eq_getElem hlt
    have ed : ds.drop i = ds[i] :: ds.drop (i + 1) := List.drop_eq_getElem_cons hlt
    rw [ed] at h
    obtain ⟨go, yl⟩ := yg i _ ex
    refine .inr ⟨go, fun σ' H' => i + 1 ≤ ds.length ∧ ∃ M sl, Step M1 H1 M H' ∧ StR X.K G A M sl σ' H' ∧ PostS X.K G A Wx M H' (sLoop (ds.drop (i + 1)) ga sa sl) E, fun σ' H' ⟨q1, q2⟩ => ⟨ds.length - (i + 1), by omega, rfl, q1, q2⟩, fun x H' hy => ?_⟩
    obtain ⟨k, dr⟩ := yl x H' hy
    have S' := S.keep k
    have sk : Step M H M H' := fun a u n e _ => ⟨n, k a u e⟩
    have h2 : PostS X.K G A Wx M H (match ga ds[i] sl with
      | none => .stuck
      | some sl1 => match sa sl1 with
        | .nx sl' => sLoop (ds.drop (i + 1)) ga sa sl'
        | .ct sl' => sLoop (ds.drop (i + 1)) ga sa sl'
        | .bk sl' => .nx sl'
        | .rt x sl' => .rt x sl'
        | .exc x => .exc x
        | .stuck => .stuck) E := h
    cases e1 : ga ds[i] sl with
    | none => rw [e1] at h2; exact h2.elim
    | some sl2 =>
      rw [e1] at h2
      refine ⟨M, sl, ds[i], S', dr, sl2, e1, fun σ' M' _ s' S2 => ⟨M', sl2, S2, ?_⟩⟩
      have h3 : PostS X.K G A Wx M' H' (match sa sl2 with
        | .nx sl' => sLoop (ds.drop (i + 1)) ga sa sl'
        | .ct sl' => sLoop (ds.drop (i + 1)) ga sa sl'
        | .bk sl' => .nx sl'
        | .rt x sl' => .rt x sl'
        | .exc x => .exc x
        | .stuck => .stuck) E := PostS.step (sk.trans s') h2
      cases e : sa sl2 with
      | nx sl' => rw [e] at h3; exact fun σ' H' M'' t S' => ⟨hlt, M'', sl', ((s.trans sk).trans s').trans t, S', PostS.step t h3⟩
      | ct sl' => rw [e] at h3; exact fun σ' H' M'' t S' => ⟨hlt, M'', sl', ((s.trans sk).trans s').trans t, S', PostS.step t h3⟩
      | bk sl' => rw [e] at h3; exact h3
      | rt x sl' => rw [e] at h3; exact h3
      | exc x => rw [e] at h3; exact h3
      | stuck => rw [e] at h3; exact h3
  · have e : i = ds.length := by omega
    subst e
    rw [List.drop_length] at h
    exact .inl ⟨ys, h σ H M (Step.refl M H) S⟩
end
end DE
namespace DE
open PySem PySem.Spec PyProof.Rows L2

/-! ### what is walked -/
theorem PI.imp {X : Cx} {tg e : Expr} {t t' : TI} (h : PI X tg e t) (k : ∀ σ H R, t' σ H R → t σ H R) : PI X tg e t' := ⟨fun pins s σ H R I hw => h.run pins s σ H R I (k σ H R hw)⟩
theorem PI.or {X : Cx} {tg e : Expr} {t t' : TI} (h : PI X tg e t) (h' : PI X tg e t') : PI X tg e (fun σ H R => t σ H R ∨ t' σ H R) := ⟨fun pins s σ H R I hw => hw.elim (h.run pins s σ H R I) (h'.run pins s σ H R I)⟩
def eItems (e : Ex) : Exs := fun sl => (e sl).bind fun x sl => match x with
  | .list xs => .ok xs sl
  | .tuple xs => .ok xs sl
  | _ => .stuck
def rangeD (lo : Int) (n : Nat) : List D := (List.range n).map fun i => .int (lo + (i : Nat))
def eRange1 (e : Ex) : Exs := fun sl => (e sl).bind fun x sl => match x with
  | .int n => if -4611686018427387904 ≤ n ∧ n < 4611686018427387904 then .ok (rangeD 0 n.toNat) sl else .stuck
  | _ => .stuck
def eRange2 (a b : Ex) : Exs := fun sl => (a sl).bind fun x sl => (b sl).bind fun y sl => match x, y with
  | .int i, .int j => if -4611686018427387904 ≤ i ∧ i < 4611686018427387904 ∧ -4611686018427387904 ≤ j ∧ j < 4611686018427387904 then .ok (rangeD i (j - i).toNat) sl else .stuck
  | _, _ => .stuck
def zipD : List D → List D → List D
  | x :: xs, y :: ys => .tuple [x, y] :: zipD xs ys
  | _, _ => []
def eZip (a b : Ex) : Exs := fun sl => (a sl).bind fun x sl => (b sl).bind fun y sl => match x, y with
  | .list xs, .list ys => .ok (zipD xs ys) sl
  | .tuple xs, .tuple ys => .ok (zipD xs ys) sl
  | _, _ => .stuck
def enumD (i : Nat) : List D → List D
  | [] => []
  | x :: xs => .tuple [.int (i : Nat), x] :: enumD (i + 1) xs
def eEnumL (a : Ex) : Exs := fun sl => (a sl).bind fun x sl => match x with
  | .list xs => .ok (enumD 0 xs) sl
  | _ => .stuck
section
variable {X : Cx} {G : Gb} {A : Act} {Wx : WX} {a b c tg : Expr} {ea eb ec : Ex} {pos : Pos}
/-- the item at a place of a walk over a list or a tuple -/
theorem i_seq (ha : PE X a (tE X.K G A Wx ea)) : PI X tg a (tI X.K G A Wx (eItems ea)) := by
  refine PI.imp (PI.or (pi_list ha) (pi_tup ha)) fun σ H R ⟨M, sl, S, h⟩ => ?_
  cases e : ea sl with
  | stuck =>
    have h' : Post X.K G A Wx (Yields X.K) M H σ ((ea sl).bind fun x sl => match x with
      | .list xs => .ok xs sl
      | .tuple xs => .ok xs sl
      | _ => .stuck) R := h
    rw [e] at h'; exact h'.elim
  | exc x =>
    have h' : Post X.K G A Wx (Yields X.K) M H σ ((ea sl).bind fun x sl => match x with
      | .list xs => .ok xs sl
      | .tuple xs => .ok xs sl
      | _ => .stuck) R := h
    rw [e] at h'
    exact .inl ⟨M, sl, S, by rw [e]; exact h'⟩
  | ok x sl1 =>
    have h' : Post X.K G A Wx (Yields X.K) M H σ ((ea sl).bind fun x sl => match x with
      | .list xs => .ok xs sl
      | .tuple xs => .ok xs sl
      | _ => .stuck) R := h
    rw [e] at h'
    cases x with
    | list xs =>
      refine .inl ⟨M, sl, S, ?_⟩
      rw [e]
      intro v H1 M1 s1 S1 r1
      cases r1 with
      | @lst p ds vs t n r =>
        refine ⟨p, rfl, ⟨vs, .of t⟩, h' _ H1 M1 s1 S1 fun M2 H2 s2 l2 => ?_⟩
        obtain ⟨n2, t2⟩ := s2 _ _ n t fx_lst
        have r2 := r.step s2
        have hS : SqL X.K H2 p vs := .of t2
        refine ⟨fun i x hx => ?_, ⟨vs, hS, by rw [r.length]; exact Nat.le_refl _⟩⟩
        obtain ⟨v, h1, h2⟩ := r2.get hx
        refine ⟨⟨vs, v, hS, h1⟩, fun v' H'' ⟨e1, e2⟩ => ?_⟩
        subst e1
        have := e2 vs hS
        rw [h1] at this
        cases this
        exact ⟨fun _ _ z => z, h2⟩
    | tuple xs =>
      refine .inr ⟨M, sl, S, ?_⟩
      rw [e]
      intro v H1 M1 s1 S1 r1
      cases r1 with
      | @tup p ds vs t r =>
        refine ⟨p, rfl, ⟨vs, t.sq⟩, h' _ H1 M1 s1 S1 fun M2 H2 s2 l2 => ?_⟩
        have r2 := r.step s2
        have hS : SqT X.K H2 p vs := (s2.tup t).sq
        refine ⟨fun i x hx => ?_, ⟨vs, hS, by rw [r.length]; exact Nat.le_refl _⟩⟩
        obtain ⟨v, h1, h2⟩ := r2.get hx
        refine ⟨⟨vs, v, hS, h1⟩, fun v' H'' ⟨e1, e2⟩ => ?_⟩
        subst e1
        have := e2 vs hS
        rw [h1] at this
        cases this
        exact ⟨fun _ _ z => z, h2⟩
    | _ => exact h'.elim
theorem rangeD_get {lo : Int} {n i : Nat} {x : D} (h : (rangeD lo n)[i]? = some x) : i < n ∧ x = .int (lo + (i : Nat)) := by
  unfold rangeD at h
  rw [List.getElem?_map] at h
  by_cases c : i < n
  · rw [List.getElem?_range c] at h
    exact ⟨c, (Option.some.inj h).symm⟩
  · rw [List.getElem?_eq_none (by rw [List.length_range]; omega)] at h
    cases h
theorem rangeD_length {lo : Int} {n : Nat} : (rangeD lo n).length = n := by unfold rangeD; rw [List.length_map, List.length_range]
theorem yields_range {M : Addr → Prop} {H : Hp} (lo : Int) (n : Nat) : Yields X.K M H (rangeD lo n) (Itr lo n) := fun M2 H2 s2 l2 => by
  refine ⟨fun i x hx => ?_, ?_⟩
  · obtain ⟨h1, rfl⟩ := rangeD_get hx
    refine ⟨h1, fun v H'' ⟨e1, e2⟩ => ?_⟩
    subst e1 e2
    exact ⟨fun _ _ z => z, .int _⟩
  · rw [rangeD_length]; exact Nat.le_refl n
theorem i_range1 {p : Pos} (hm : X.mg "range" = none) (ha : PE X a (tE X.K G A Wx ea)) (hg : Gl X "range" := by rfl) (hs : starEach [a] X.env = [(false, eval a X.env)] := by rfl) : PI X tg (.Call (.Name "range" p) [a] [] pos) (tI X.K G A Wx (eRange1 ea)) := by
  refine PI.imp (pi_range1 hg hm (pa_cons ha pa_nil hs) hs) fun σ H R ⟨M, sl, S, h⟩ => ?_
  show tE X.K G A Wx ea σ H _
  refine tX.bind S h fun M1 x sl1 v H1 s1 S1 r1 h1 => ?_
  cases x with
  | int n =>
    have h2 : Post X.K G A Wx (Yields X.K) M1 H1 σ (if -4611686018427387904 ≤ n ∧ n < 4611686018427387904 then .ok (rangeD 0 n.toNat) sl1 else .stuck) R := h1
    by_cases c : -4611686018427387904 ≤ n ∧ n < 4611686018427387904
    · rw [if_pos c] at h2
      rw [r1.int_inv]
      exact ⟨n, rfl, by omega, by omega, Post.done S1 h2 (yields_range 0 _)⟩
    · rw [if_neg c] at h2; exact h2.elim
  | _ => exact h1.elim
theorem i_range2 {p : Pos} (hm : X.mg "range" = none) (ha : PE X a (tE X.K G A Wx ea)) (hb : PE X b (tE X.K G A Wx eb)) (hg : Gl X "range" := by rfl) (hs : starEach [a, b] X.env = [(false, eval a X.env), (false, eval b X.env)] := by rfl) (hs2 : starEach [b] X.env = [(false, eval b X.env)] := by rfl) :
    PI X tg (.Call (.Name "range" p) [a, b] [] pos) (tI X.K G A Wx (eRange2 ea eb)) := by
  refine PI.imp (pi_range2 hg hm (pa_cons ha (pa_cons hb pa_nil hs2) (by rw [hs, hs2])) hs hs2) fun σ H R ⟨M, sl, S, h⟩ => ?_
  show tE X.K G A Wx ea σ H fun x H1 => tE X.K G A Wx eb σ H1 fun y H2 => _
  refine tX.bind S h fun M1 x sl1 v H1 s1 S1 r1 h1 => tX.bind S1 h1 fun M2 y sl2 u H2 s2 S2 r2 h2 => ?_
  cases x with
  | int i =>
    cases y with
    | int j =>
      have h3 : Post X.K G A Wx (Yields X.K) M2 H2 σ (if -4611686018427387904 ≤ i ∧ i < 4611686018427387904 ∧ -4611686018427387904 ≤ j ∧ j < 4611686018427387904 then .ok (rangeD i (j - i).toNat) sl2 else .stuck) R := h2
      by_cases c : -4611686018427387904 ≤ i ∧ i < 4611686018427387904 ∧ -4611686018427387904 ≤ j ∧ j < 4611686018427387904
      · rw [if_pos c] at h3
        rw [r1.int_inv, r2.int_inv]
        exact ⟨i, j, rfl, ⟨by omega, by omega, by omega, by omega⟩, Post.done S2 h3 (yields_range i _)⟩
      · rw [if_neg c] at h3; exact h3.elim
    | _ => exact h2.elim
  | _ => cases y <;> exact h2.elim
theorem zipD_get : ∀ {xs ys : List D} {i : Nat} {x : D}, (zipD xs ys)[i]? = some x → ∃ p q, xs[i]? = some p ∧ ys[i]? = some q ∧ x = .tuple [p, q]
  | [], _, _, _, h => by simp [zipD] at h
  | _ :: _, [], _, _, h => by simp [zipD] at h
  | p :: xs, q :: ys, 0, x, h => by
    have e : PyData.tuple [p, q] = x := Option.some.inj h
    exact ⟨p, q, rfl, rfl, e.symm⟩
  | p :: xs, q :: ys, i + 1, x, h => by
    obtain ⟨p', q', h1, h2, h3⟩ := zipD_get (xs := xs) (ys := ys) (i := i) (x := x) h
    exact ⟨p', q', h1, h2, h3⟩
theorem zipD_len : ∀ (xs ys : List D), xs.length ≤ (zipD xs ys).length ∨ ys.length ≤ (zipD xs ys).length
  | [], ys => .inl (Nat.zero_le _)
  | x :: xs, [] => .inr (Nat.zero_le _)
  | x :: xs, y :: ys => (zipD_len xs ys).elim (fun h => .inl (Nat.succ_le_succ h)) fun h => .inr (Nat.succ_le_succ h)
theorem i_zip {p tpos : Pos} {elts : List Expr} {kk : Nat} (hm : X.mg "zip" = none) (ha : PE X a (tE X.K G A Wx ea)) (hb : PE X b (tE X.K G A Wx eb)) (hg : Gl X "zip" := by rfl)
    (hs : starEach [a, b] X.env = (false, eval a X.env) :: starEach [b] X.env := by rfl) (hs2 : starEach [b] X.env = (false, eval b X.env) :: starEach [] X.env := by rfl) (hpl : (backTo pos (starEach [b] X.env)).any (·.1) = false := by rfl) :
    PI X (.Tuple elts kk tpos) (.Call (.Name "zip" p) [a, b] [] pos) (tI X.K G A Wx (eZip ea eb)) := by
  refine PI.imp (RZ.pi_zipA hg hm (pa_cons ha (pa_cons hb pa_nil hs2) hs) hs hpl) fun σ H R ⟨M, sl, S, h⟩ => ?_
  show tE X.K G A Wx ea σ H fun x H1 => tE X.K G A Wx eb σ H1 fun y H2 => _
  refine tX.bind S h fun M1 x sl1 v H1 s1 S1 r1 h1 => tX.bind S1 h1 fun M2 y sl2 u H2 s2 S2 r2 h2 => ?_
  have r1' := r1.step s2
  cases x with
  | list xs =>
    cases y with
    | list ys =>
      cases r1' with
      | @lst p1 _ vs t n r =>
        cases r2 with
        | @lst p2 _ us t' n' r' =>
          refine ⟨p1, p2, vs, us, rfl, .inl ⟨.of t, .of t', Post.done S2 h2 fun M3 H3 s3 l3 => ?_⟩⟩
          have hx : SqL X.K H3 p1 vs := .of (s3 _ _ n t fx_lst).2
          have hy : SqL X.K H3 p2 us := .of (s3 _ _ n' t' fx_lst).2
          refine ⟨fun i x hi => ?_, ⟨vs, us, hx, hy, by rw [← r.length, ← r'.length]; exact zipD_len xs ys⟩⟩
          obtain ⟨q1, q2, e1, e2, rfl⟩ := zipD_get hi
          obtain ⟨w1, f1, g1⟩ := (r.step s3).get e1
          obtain ⟨w2, f2, g2⟩ := (r'.step s3).get e2
          refine ⟨⟨vs, us, w1, w2, hx, hy, f1, f2⟩, fun v' H'' ⟨T, x', y', e, hT, eH, kx, ky⟩ => ?_⟩
          subst e eH
          have z1 := kx vs hx
          have z2 := ky us hy
          rw [f1] at z1
          rw [f2] at z2
          cases z1
          cases z2
          have st : Step M3 H3 M3 (upd H3 T (.tup [w1, w2])) := Step.fresh hT
          exact ⟨upd_fresh hT, .tup (.inl ⟨.of upd_same, l3.not hT⟩) (.cons (g1.step st) (.cons (g2.step st) .nil))⟩
    | _ => exact h2.elim
  | tuple xs =>
    cases y with
    | tuple ys =>
      cases r1' with
      | @tup p1 _ vs t r =>
        cases r2 with
        | @tup p2 _ us t' r' =>
          refine ⟨p1, p2, vs, us, rfl, .inr ⟨t.sq, t'.sq, Post.done S2 h2 fun M3 H3 s3 l3 => ?_⟩⟩
          have hx : SqT X.K H3 p1 vs := (s3.tup t).sq
          have hy : SqT X.K H3 p2 us := (s3.tup t').sq
          refine ⟨fun i x hi => ?_, ⟨vs, us, hx, hy, by rw [← r.length, ← r'.length]; exact zipD_len xs ys⟩⟩
          obtain ⟨q1, q2, e1, e2, rfl⟩ := zipD_get hi
          obtain ⟨w1, f1, g1⟩ := (r.step s3).get e1
          obtain ⟨w2, f2, g2⟩ := (r'.step s3).get e2
          refine ⟨⟨vs, us, w1, w2, hx, hy, f1, f2⟩, fun v' H'' ⟨T, x', y', e, hT, eH, kx, ky⟩ => ?_⟩
          subst e eH
          have z1 := kx vs hx
          have z2 := ky us hy
          rw [f1] at z1
          rw [f2] at z2
          cases z1
          cases z2
          have st : Step M3 H3 M3 (upd H3 T (.tup [w1, w2])) := Step.fresh hT
          exact ⟨upd_fresh hT, .tup (.inl ⟨.of upd_same, l3.not hT⟩) (.cons (g1.step st) (.cons (g2.step st) .nil))⟩
    | _ => exact h2.elim
  | _ => cases y <;> exact h2.elim
theorem enumD_get : ∀ {xs : List D} {k i : Nat} {x : D}, (enumD k xs)[i]? = some x → ∃ p, xs[i]? = some p ∧ x = .tuple [.int ((k + i : Nat)), p]
  | [], _, _, _, h => by simp [enumD] at h
  | p :: xs, k, 0, x, h => by
    have e : PyData.tuple [.int (k : Nat), p] = x := Option.some.inj h
    exact ⟨p, rfl, e.symm⟩
  | p :: xs, k, i + 1, x, h => by
    obtain ⟨p', h1, h3⟩ := enumD_get (xs := xs) (k := k + 1) (i := i) (x := x) h
    exact ⟨p', h1, by rw [h3, Nat.add_assoc, Nat.add_comm 1 i]⟩
theorem enumD_len : ∀ (xs : List D) (k : Nat), (enumD k xs).length = xs.length
  | [], _ => rfl
  | x :: xs, k => by
    show (enumD (k + 1) xs).length + 1 = xs.length + 1
    rw [enumD_len xs]
theorem i_enumL {p tpos : Pos} {elts : List Expr} {kk : Nat} (hm : X.mg "enumerate" = none) (ha : PE X a (tE X.K G A Wx ea)) (hg : Gl X "enumerate" := by rfl) (hs : starEach [a] X.env = [(false, eval a X.env)] := by rfl) :
    PI X (.Tuple elts kk tpos) (.Call (.Name "enumerate" p) [a] [] pos) (tI X.K G A Wx (eEnumL ea)) := by
  refine PI.imp (pi_enum hg hm (pa_cons ha pa_nil hs) hs) fun σ H R ⟨M, sl, S, h⟩ => ?_
  show tE X.K G A Wx ea σ H _
  refine tX.bind S h fun M1 x sl1 v H1 s1 S1 r1 h1 => ?_
  cases x with
  | list xs =>
    cases r1 with
    | @lst p _ vs t n r =>
      refine ⟨p, vs, rfl, .of t, Post.done S1 h1 fun M3 H3 s3 l3 => ?_⟩
      have hx : SqL X.K H3 p vs := .of (s3 _ _ n t fx_lst).2
      refine ⟨fun i x hi => ?_, ⟨vs, hx, by rw [enumD_len, r.length]; exact Nat.le_refl _⟩⟩
      obtain ⟨q, e1, rfl⟩ := enumD_get hi
      obtain ⟨w1, f1, g1⟩ := (r.step s3).get e1
      refine ⟨⟨vs, w1, hx, f1⟩, fun v' H'' ⟨T, x', e, hT, eH, kx⟩ => ?_⟩
      subst e eH
      have z1 := kx vs hx
      rw [f1] at z1
      cases z1
      have st : Step M3 H3 M3 (upd H3 T (.tup [.int (i : Nat), w1])) := Step.fresh hT
      refine ⟨upd_fresh hT, .tup (.inl ⟨.of upd_same, l3.not hT⟩) (.cons ?_ (.cons (g1.step st) .nil))⟩
      rw [Nat.zero_add]
      exact .int _
  | _ => exact h1.elim
/-! ### slices -/
def eP0 : Sl → R (Option Int) := fun sl => .ok none sl
def eP (e : Ex) : Sl → R (Option Int) := fun sl => (e sl).bind fun x sl => match x with
  | .int i => .ok (some i) sl
  | _ => .stuck
def cutD (xs : List D) (lo hi : Option Int) : List D := (xs.drop (HT.sIx xs.length 0 lo)).take (HT.sIx xs.length xs.length hi - HT.sIx xs.length 0 lo)
def fSl : D → Option Int → Option Int → Option D
  | .list xs, lo, hi => some (.list (cutD xs lo hi))
  | .tuple xs, lo, hi => some (.tuple (cutD xs lo hi))
  | _, _, _ => none
def eSl (e : Ex) (lo hi : Sl → R (Option Int)) : Ex := fun sl => (e sl).bind fun x sl => (lo sl).bind fun l sl => (hi sl).bind fun u sl => optR (fSl x l u) sl
abbrev tP (K : PySem.W.Frag) (G : Gb) (A : Act) (Wx : WX) (e : Sl → R (Option Int)) : TO := tX K G A Wx (fun _ _ (x y : Option Int) => x = y) e
theorem PO.imp {e : Option Expr} {t t' : TO} (h : PO X e t) (k : ∀ σ H Q, t' σ H Q → t σ H Q) : PO X e t' := ⟨fun pins s σ H Q I hw => h.run pins s σ H Q I (k σ H Q hw)⟩
theorem p_none : PO X none (tP X.K G A Wx eP0) := PO.imp po_none fun σ H Q ⟨M, sl, S, h⟩ => Post.done S h rfl
theorem p_some (ha : PE X a (tE X.K G A Wx ea)) : PO X (some a) (tP X.K G A Wx (eP ea)) := by
  refine PO.imp (po_some ha) fun σ H Q ⟨M, sl, S, h⟩ => tX.bind S h fun M1 x sl1 v H1 s1 S1 r1 h1 => ?_
  cases x with
  | int i => exact ⟨i, r1.int_inv, Post.done S1 h1 rfl⟩
  | _ => exact h1.elim
theorem cut_rel {K : PySem.W.Frag} {M : Addr → Prop} {H : Hp} {xs : List D} {vs : List V} (r : DRs K M H xs vs) (lo hi : Option Int) : DRs K M H (cutD xs lo hi) (cutV vs lo hi) := by
  unfold cutD cutV
  rw [r.length]
  exact (r.drop _).take _
theorem r_slice {lo hi : Option Expr} {p2 : Pos} {el eh : Sl → R (Option Int)} (ha : PE X a (tE X.K G A Wx ea)) (hl : PO X lo (tP X.K G A Wx el)) (hu : PO X hi (tP X.K G A Wx eh)) : PE X (.Subscript a (.Slice lo hi none p2) pos) (tE X.K G A Wx (eSl ea el eh)) := by
  refine PE.imp (pe_slice (SlR.or sl_list sl_tupA) ha hl hu) fun σ H Q ⟨M, sl, S, h⟩ => tX.bind S h fun M1 x sl1 v H1 s1 S1 r1 h1 => tX.bind S1 h1 fun M2 l sl2 l' H2 s2 S2 r2 h2 => tX.bind S2 h2 fun M3 u sl3 u' H3 s3 S3 r3 h3 => ?_
  subst r2 r3
  have r1' := (r1.step s2).step s3
  cases x with
  | list xs =>
    cases r1' with
    | @lst p _ vs t n r => exact .inl ⟨p, vs, rfl, .of t, fun q hq => h3 _ _ M3 (Step.fresh hq) (S3.fresh hq) (S3.lst hq (cut_rel r _ _))⟩
  | tuple xs =>
    cases r1' with
    | @tup p _ vs t r =>
      refine .inr ⟨p, vs, rfl, t.sq, fun ⟨z1, z2⟩ => ?_, fun _ q hq => h3 _ _ M3 (Step.fresh hq) (S3.fresh hq) (S3.tup hq (cut_rel r _ _))⟩
      have e : cutD xs l u = xs := by
        unfold cutD
        rw [r.length, z1, z2]
        simp [← r.length]
      have h4 : Post X.K G A Wx (DR X.K) M3 H3 σ (.ok (.tuple (cutD xs l u)) sl3) Q := h3
      rw [e] at h4
      exact Post.done S3 h4 (.tup t r)
  | _ => exact h3.elim
/-! ### one's own lists -/
theorem isOL_at {sl : Sl} {i : Nat} (h : isOL sl i = true) : ∃ b xs, nth sl i = .own b (.list xs) := by
  unfold isOL at h
  split at h
  · exact ⟨_, _, by assumption⟩
  · cases h
theorem StR.ownL {M : Addr → Prop} {sl : Sl} {σ : L2.St} {H : Hp} (S : StR X.K G A M sl σ H) {i : Nat} {b : Bool} {xs : List D} (e : nth sl i = .own b (.list xs)) : ∃ p vs, σ[i]? = some (some (.ref p)) ∧ H p = some (.lst vs) ∧ DRs X.K M H xs vs ∧ M p := by
  obtain ⟨p, e1, m, mp, _⟩ := S.own i b _ (nth_own e)
  rcases m with ⟨ds, vs, e2, e3, r⟩ | ⟨ks, ys, vs, e2, _⟩
  · cases e2
    exact ⟨p, vs, e1, e3, r, mp⟩
  · cases e2
/-- the list in an owned slot is written -/
theorem StR.setL {M : Addr → Prop} {sl : Sl} {σ : L2.St} {H : Hp} (S : StR X.K G A M sl σ H) {i : Nat} {b : Bool} {xs ys : List D} {us : List V} {p : Addr} (e : nth sl i = .own b (.list xs)) (hp : σ[i]? = some (some (.ref p))) {vs : List V} (hv : H p = some (.lst vs)) (mp : M p) (r : DRs X.K M H ys us) :
    Step M H M (upd H p (.lst us)) ∧ StR X.K G A M (sl.set i (.own b (.list ys))) σ (upd H p (.lst us)) := by
  have st : Step M H M (upd H p (.lst us)) := fun d u n e _ => ⟨n, by rw [upd_ne (fun z => n (by rw [z]; exact mp))]; exact e⟩
  exact S.change (nth_own e) hp fx_lst (lst_ntbl hv).1 (lst_ntbl hv).2 (.inl ⟨ys, us, rfl, upd_same, r.step st⟩)
theorem r_append (i : Nat) {x : Str} {p apos cpos : Pos} (ha : PE X a (tE X.K G A Wx ea)) (hx : PE X (.Name x p) (tVar i)) (hbase : attributeBase (.Name x p) "append" X.env (eval (.Name x p) X.env) = eval (.Name x p) X.env := by rfl)
    (hfew : ((backTo cpos (starEach (a :: []) X.env)).all (fun x => !x.1) && (backToKw cpos (keywordEach [] X.env)).all (fun x => x.1.isSome)
      && decide ((a :: []).length + ([] : List Keyword).length + (if ([] : List Keyword).isEmpty then 0 else 1) < 30)) = true := by rfl)
    (hline : (apos.endLine == cpos.line) = true := by rfl) (hs : starEach (a :: []) X.env = (false, eval a X.env) :: starEach [] X.env := by rfl) (hplain : (backTo cpos (starEach [] X.env)).any (·.1) = false := by rfl) :
    PE X (.Call (.Attribute (.Name x p) "append" apos) [a] [] cpos) (tE X.K G A Wx (eApp i ea)) := by
  refine PE.imp (pe_bm PySem.F.plainAttrs_list PySem.F.slot_list_append PySem.F.type_list_append mt_append hx (pa_cons ha pa_nil hs) hbase hfew hline hs hplain) fun σ H Q ⟨M, sl, S, h⟩ => ?_
  unfold eApp at h
  by_cases c : isOL sl i = true
  · rw [if_pos c] at h
    obtain ⟨b, xs, e⟩ := isOL_at c
    obtain ⟨p, vs, e1, e2, _, _⟩ := S.ownL e
    refine ⟨_, e1, .inl ⟨rfl, vs, .of e2⟩, tX.bind S h fun M1 y sl1 v H1 s1 S1 r1 h1 => ?_⟩
    cases e3 : nth sl1 i with
    | own b xs =>
      rw [e3] at h1
      cases xs with
      | list xs =>
        have h2 : Post X.K G A Wx (DR X.K) M1 H1 σ (if xs.length < 16777216 then .ok .none (sl1.set i (.own b (.list (xs ++ [y])))) else .stuck) Q := h1
        by_cases c2 : xs.length < 16777216
        · rw [if_pos c2] at h2
          obtain ⟨p', us, f1, f2, f3, f4⟩ := S1.ownL e3
          rw [e1] at f1; cases f1
          obtain ⟨s2, S2⟩ := S1.setL e3 e1 f2 f4 (f3.append (.cons r1 .nil))
          exact ⟨p, us, v, rfl, rfl, f2, by rw [line_eq, ← f3.length]; exact c2, h2 _ _ M1 s2 S2 .non⟩
        · rw [if_neg c2] at h2; exact h2.elim
      | _ => exact h1.elim
    | _ => rw [e3] at h1; exact h1.elim
  · rw [if_neg c] at h; exact h.elim
theorem r_extend (i : Nat) {x : Str} {p apos cpos : Pos} (ha : PE X a (tE X.K G A Wx ea)) (hx : PE X (.Name x p) (tVar i)) (hbase : attributeBase (.Name x p) "extend" X.env (eval (.Name x p) X.env) = eval (.Name x p) X.env := by rfl)
    (hfew : ((backTo cpos (starEach (a :: []) X.env)).all (fun x => !x.1) && (backToKw cpos (keywordEach [] X.env)).all (fun x => x.1.isSome)
      && decide ((a :: []).length + ([] : List Keyword).length + (if ([] : List Keyword).isEmpty then 0 else 1) < 30)) = true := by rfl)
    (hline : (apos.endLine == cpos.line) = true := by rfl) (hs : starEach (a :: []) X.env = (false, eval a X.env) :: starEach [] X.env := by rfl) (hplain : (backTo cpos (starEach [] X.env)).any (·.1) = false := by rfl) :
    PE X (.Call (.Attribute (.Name x p) "extend" apos) [a] [] cpos) (tE X.K G A Wx (eExt i ea)) := by
  refine PE.imp (pe_bm PySem.F.plainAttrs_list PySem.F.slot_list_extend PySem.F.type_list_extend mt_extend hx (pa_cons ha pa_nil hs) hbase hfew hline hs hplain) fun σ H Q ⟨M, sl, S, h⟩ => ?_
  unfold eExt at h
  by_cases c : isOL sl i = true
  · rw [if_pos c] at h
    obtain ⟨b, xs, e⟩ := isOL_at c
    obtain ⟨p, vs, e1, e2, _, _⟩ := S.ownL e
    refine ⟨_, e1, .inl ⟨rfl, vs, .of e2⟩, tX.bind S h fun M1 y sl1 v H1 s1 S1 r1 h1 => ?_⟩
    cases e3 : nth sl1 i with
    | own b xs =>
      rw [e3] at h1
      cases xs with
      | list xs =>
        cases y with
        | list ys =>
          cases r1 with
          | @lst q _ ws t n r =>
            have h2 : Post X.K G A Wx (DR X.K) M1 H1 σ (if xs.length + ys.length ≤ 16777216 then .ok .none (sl1.set i (.own b (.list (xs ++ ys)))) else .stuck) Q := h1
            by_cases c2 : xs.length + ys.length ≤ 16777216
            · rw [if_pos c2] at h2
              obtain ⟨p', us, f1, f2, f3, f4⟩ := S1.ownL e3
              rw [e1] at f1; cases f1
              obtain ⟨s2, S2⟩ := S1.setL e3 e1 f2 f4 (f3.append r)
              exact ⟨p, q, us, ws, rfl, rfl, f2, t, by rw [line_eq, ← f3.length, ← r.length]; exact c2, h2 _ _ M1 s2 S2 .non⟩
            · rw [if_neg c2] at h2; exact h2.elim
        | _ => exact h1.elim
      | _ => cases y <;> exact h1.elim
    | _ => rw [e3] at h1; exact h1.elim
  · rw [if_neg c] at h; exact h.elim
theorem r_ixO (i : Nat) {x : Str} {p : Pos} (hx : PE X (.Name x p) (tVar i)) (hb : PE X b (tE X.K G A Wx eb)) (hs : PlainIx b := by exact fun _ _ => rfl) : PE X (.Subscript (.Name x p) b pos) (tE X.K G A Wx (eIxO i eb)) := by
  refine PE.imp (pe_ix ix_list hx hb hs) fun σ H Q ⟨M, sl, S, h⟩ => ?_
  unfold eIxO at h
  by_cases c : isOL sl i = true
  · rw [if_pos c] at h
    obtain ⟨b, xs, e⟩ := isOL_at c
    obtain ⟨p, vs, e1, e2, _, _⟩ := S.ownL e
    refine ⟨_, e1, tX.bind S h fun M1 y sl1 v H1 s1 S1 r1 h1 => ?_⟩
    cases e3 : nth sl1 i with
    | own b xs =>
      rw [e3] at h1
      cases xs with
      | list xs =>
        cases y with
        | int n =>
          have h2 : Post X.K G A Wx (DR X.K) M1 H1 σ (optR (atI xs n) sl1) Q := h1
          cases e4 : atI xs n with
          | none => rw [e4] at h2; exact h2.elim
          | some z =>
            rw [e4] at h2
            obtain ⟨p', us, f1, f2, f3, f4⟩ := S1.ownL e3
            rw [e1] at f1; cases f1
            obtain ⟨w, g1, g2⟩ := f3.atI e4
            exact ⟨p, us, n, w, rfl, r1.int_inv, .of f2, g1, Post.done S1 h2 g2⟩
        | _ => exact h1.elim
      | _ => cases y <;> exact h1.elim
    | _ => rw [e3] at h1; exact h1.elim
  · rw [if_neg c] at h; exact h.elim
theorem isScr_at {sl : Sl} {i : Nat} (h : isScr sl i = true) : ∃ ns, nth sl i = .scr ns := by
  unfold isScr at h
  split at h
  · exact ⟨_, by assumption⟩
  · cases h
theorem nth_scr {sl : Sl} {i : Nat} {ns : List Int} (h : nth sl i = .scr ns) : sl[i]? = some (.scr ns) := by rw [← h]; exact nth_get (by rw [h]; exact fun z => nomatch z)
theorem r_ixS (i : Nat) {x : Str} {p : Pos} (hx : PE X (.Name x p) (tVar i)) (hb : PE X b (tE X.K G A Wx eb)) (hs : PlainIx b := by exact fun _ _ => rfl) : PE X (.Subscript (.Name x p) b pos) (tE X.K G A Wx (eIxS i eb)) := by
  refine PE.imp (pe_ix ix_list hx hb hs) fun σ H Q ⟨M, sl, S, h⟩ => ?_
  unfold eIxS at h
  by_cases c : isScr sl i = true
  · rw [if_pos c] at h
    obtain ⟨ns, e⟩ := isScr_at c
    obtain ⟨p, e1, e2⟩ := S.scr i ns (nth_scr e)
    refine ⟨_, e1, tX.bind S h fun M1 y sl1 v H1 s1 S1 r1 h1 => ?_⟩
    cases e3 : nth sl1 i with
    | scr ns =>
      rw [e3] at h1
      cases y with
      | int n =>
        have h2 : Post X.K G A Wx (DR X.K) M1 H1 σ (optR ((atI ns n).map .int) sl1) Q := h1
        obtain ⟨p', f1, f2⟩ := S1.scr i ns (nth_scr e3)
        rw [e1] at f1; cases f1
        cases e4 : atI ns n with
        | none => rw [e4] at h2; exact h2.elim
        | some z =>
          rw [e4] at h2
          refine ⟨p, _, n, .int z, rfl, r1.int_inv, f2.sq, ?_, Post.done S1 h2 (.int z)⟩
          obtain ⟨j, g1, g2⟩ := atI_len (ys := ns.map V.int) (by rw [List.length_map]) e4
          exact g2 _ (by rw [List.getElem?_map, g1]; rfl)
      | _ => exact h1.elim
    | _ => rw [e3] at h1; exact h1.elim
  · rw [if_neg c] at h; exact h.elim
/-- len(x) of an owned list, of the script -/
theorem r_lenO (i : Nat) {x : Str} {p q : Pos} (hm : X.mg "len" = none) (hx : PE X (.Name x p) (tVar i)) (hg : Gl X "len" := by rfl)
    (he : starEach ((.Name x p) :: []) X.env = (false, eval (.Name x p) X.env) :: starEach [] X.env := by rfl) (hpl : (backTo pos (starEach [] X.env)).any (·.1) = false := by rfl) :
    PE X (.Call (.Name "len" q) [.Name x p] [] pos) (tE X.K G A Wx (eLenO i)) := by
  refine PE.imp (pe_callB call_len hg hm (by decide +kernel) (pa_cons hx pa_nil he) (by decide) (by decide) he hpl) fun σ H Q ⟨M, sl, S, h⟩ => ?_
  unfold eLenO at h
  cases e : nth sl i with
  | own b xs =>
    rw [e] at h
    cases xs with
    | list xs =>
      obtain ⟨p, vs, e1, e2, e3, _⟩ := S.ownL e
      exact ⟨_, e1, _, _, rfl, .inl ⟨vs, .of e2, e3.length⟩, Post.done S h (.int _)⟩
    | _ => exact h.elim
  | scr ns =>
    rw [e] at h
    obtain ⟨p, e1, e2⟩ := S.scr i ns (nth_scr e)
    exact ⟨_, e1, _, _, rfl, .inl ⟨_, e2.sq, (List.length_map _).symm⟩, Post.done S h (.int _)⟩
  | _ => rw [e] at h; exact h.elim
/-- x[k] = e, x an owned list -/
theorem s_put (i : Nat) {x : Str} {p tp : Pos} (hx : PE X (.Name x p) (tVar i)) (hb : PE X b (tE X.K G A Wx eb)) (ha : PE X a (tE X.K G A Wx ea)) (hs : swapsWithSole [.Subscript (.Name x p) b tp] a pos.line X.env = pure false := by rfl) (hw : swappedStores [.Subscript (.Name x p) b tp] a X.env = pure none := by rfl)
    (h1 : (assignEach [.Subscript (.Name x p) b tp] X.env).map (·.2) = [assign (.Subscript (.Name x p) b tp) X.env] := by rfl)
    (hsub : ∀ v, assign (.Subscript (.Name x p) b tp) X.env v = (do
      let ov ← holding [v] (eval (.Name x p) X.env)
      let iv ← holding [v, ov] (eval b X.env)
      standAt tp
      holding [v, ov, iv] (setItem ov iv v)
      release [v, ov, iv] []) := by intro _; rfl) :
    PS X (.Assign [.Subscript (.Name x p) b tp] a pos) (tS X.K G A Wx (sPut i eb ea)) := by
  refine PS.imp (ps_asg ha (pg_sub hx hb set_list hsub) hs hw h1) fun E σ H ⟨M, sl, S, h⟩ => tX.bindS S h fun M1 y sl1 v H1 s1 S1 r1 h1 => ?_
  by_cases c : isOL sl1 i = true
  · rw [if_pos c] at h1
    obtain ⟨b, xs, e⟩ := isOL_at c
    obtain ⟨p, vs, e1, e2, _, _⟩ := S1.ownL e
    refine ⟨_, e1, tX.bindS S1 h1 fun M2 k sl2 u H2 s2 S2 r2 h2 => ?_⟩
    cases e3 : nth sl2 i with
    | own b xs =>
      rw [e3] at h2
      cases xs with
      | list xs =>
        cases k with
        | int n =>
          have h3 : PostS X.K G A Wx M2 H2 (match ixN xs.length n with
            | some j => .nx (sl2.set i (.own b (.list (xs.set j y))))
            | none => .stuck) E := h2
          cases e4 : ixN xs.length n with
          | none => rw [e4] at h3; exact h3.elim
          | some j =>
            rw [e4] at h3
            obtain ⟨p', us, f1, f2, f3, f4⟩ := S2.ownL e3
            rw [e1] at f1; cases f1
            obtain ⟨s3, S3⟩ := S2.setL e3 e1 f2 f4 (f3.set (r1.step s2) j)
            exact ⟨p, us, n, j, rfl, r2.int_inv, f2, by rw [← f3.length]; exact e4, h3 σ _ M2 s3 S3⟩
        | _ => exact h2.elim
      | _ => cases k <;> exact h2.elim
    | _ => rw [e3] at h2; exact h2.elim
  · rw [if_neg c] at h1; exact h1.elim
/-! ### one's own dicts -/
theorem kEq_kD (j k : Key) : kEq (kD j) k = decide (j = k) := by
  cases j <;> cases k
  · simp only [kD, kEq]
    rename_i a b
    by_cases e : a = b
    · subst e; simp
    · rw [decide_eq_false (fun z => e (Sum.inl.inj z))]; exact beq_eq_false_iff_ne.mpr e
  · simp only [kD, kEq]; exact (decide_eq_false (fun z => nomatch z)).symm
  · simp only [kD, kEq]; exact (decide_eq_false (fun z => nomatch z)).symm
  · simp only [kD, kEq]
    rename_i a b
    by_cases e : a = b
    · subst e; simp
    · rw [decide_eq_false (fun z => e (Sum.inr.inj z)), decide_eq_false e]
theorem look_rel {K : PySem.W.Frag} {M : Addr → Prop} {H : Hp} (k : Key) : ∀ {ks : List Key} {xs : List D} {vs : List V}, ks.length = vs.length → DRs K M H xs vs →
    (∀ z, lookK k ((ks.map kD).zip xs) = some z → ∃ v, valV (ks.zip vs) k = some v ∧ DR K M H z v) ∧ (lookK k ((ks.map kD).zip xs) = none → valV (ks.zip vs) k = none)
  | [], _, _, _, _ => ⟨fun z h => by simp [lookK] at h, fun _ => rfl⟩
  | j :: ks, _, _, hl, .nil => by cases hl
  | j :: ks, x :: xs, v :: vs, hl, .cons r t => by
    obtain ⟨i1, i2⟩ := look_rel (ks := ks) k (Nat.succ.inj hl) t
    have e : lookK k (((j :: ks).map kD).zip (x :: xs)) = if decide (j = k) = true then some x else lookK k ((ks.map kD).zip xs) := by
      rw [← kEq_kD]; rfl
    rw [e]
    by_cases c : j = k
    · rw [if_pos (decide_eq_true c)]
      exact ⟨fun z h => ⟨v, valV_pos (p := (j, v)) c, by cases h; exact r⟩, fun h => nomatch h⟩
    · rw [if_neg (by simpa using c)]
      refine ⟨fun z h => ?_, fun h => ?_⟩
      · obtain ⟨w, h1, h2⟩ := i1 z h
        exact ⟨w, (valV_neg (p := (j, v)) c).trans h1, h2⟩
      · exact (valV_neg (p := (j, v)) c).trans (i2 h)
theorem isOD_at {sl : Sl} {i : Nat} (h : isOD sl i = true) : ∃ b m, nth sl i = .own b (.dict m) := by
  unfold isOD at h
  split at h
  · exact ⟨_, _, by assumption⟩
  · cases h
theorem StR.ownD {M : Addr → Prop} {sl : Sl} {σ : L2.St} {H : Hp} (S : StR X.K G A M sl σ H) {i : Nat} {b : Bool} {m : List (D × D)} (e : nth sl i = .own b (.dict m)) : ∃ (p : Addr) (ks : List Key) (xs : List D) (vs : List V), m = (ks.map kD).zip xs ∧ ks.length = vs.length ∧ σ[i]? = some (some (.ref p)) ∧ H p = some (.dK (ks.zip vs)) ∧ DRs X.K M H xs vs ∧ M p := by
  obtain ⟨p, e1, m, mp, _⟩ := S.own i b _ (nth_own e)
  rcases m with ⟨ds, vs, e2, _⟩ | ⟨ks, ys, vs, e2, l, e3, r⟩
  · cases e2
  · exact ⟨p, ks, ys, vs, PyData.dict.inj e2, l, e1, e3, r, mp⟩
theorem zip_snoc {α β : Type} : ∀ {as : List α} {bs : List β} (a : α) (b : β), as.length = bs.length → (as ++ [a]).zip (bs ++ [b]) = as.zip bs ++ [(a, b)]
  | [], [], _, _, _ => rfl
  | [], _ :: _, _, _, h => by cases h
  | _ :: _, [], _, _, h => by cases h
  | x :: as, y :: bs, a, b, h => by
    show (x, y) :: ((as ++ [a]).zip (bs ++ [b])) = (x, y) :: (as.zip bs ++ [(a, b)])
    rw [zip_snoc a b (Nat.succ.inj h)]
theorem keyOf_rel {K : PySem.W.Frag} {M : Addr → Prop} {H : Hp} {x : D} {v : V} {k : Key} (r : DR K M H x v) (h : keyOf x = some k) : v = kV k ∧ x = kD k := by
  cases r <;> first | (cases h; exact ⟨rfl, rfl⟩) | (cases h; done)
theorem r_setd (i : Nat) {x : Str} {p apos cpos : Pos} (hx : PE X (.Name x p) (tVar i)) (ha : PE X a (tE X.K G A Wx ea)) (hb : PE X b (tE X.K G A Wx eb)) (m : M2 X (.Name x p) "setdefault" apos a b cpos) :
    PE X (.Call (.Attribute (.Name x p) "setdefault" apos) [a, b] [] cpos) (tE X.K G A Wx (eSetd i ea eb)) := by
  refine PE.imp (pe_dsetd hx ha hb m) fun σ H Q ⟨M, sl, S, h⟩ => ?_
  unfold eSetd at h
  by_cases c : isOD sl i = true
  · rw [if_pos c] at h
    obtain ⟨b, m, e⟩ := isOD_at c
    obtain ⟨p, ks, xs, vs, em, el, e1, e2, e3, e4⟩ := S.ownD e
    refine ⟨_, e1, p, rfl, .inl ⟨_, .inl e2⟩, tX.bind S h fun M1 y sl1 v H1 s1 S1 r1 h1 => tX.bind S1 h1 fun M2 z sl2 u H2 s2 S2 r2 h2 => ?_⟩
    cases q : nth sl2 i with
    | own b m =>
      rw [q] at h2
      cases m with
      | dict m =>
        cases qk : keyOf y with
        | none => rw [qk] at h2; exact h2.elim
        | some k =>
          rw [qk] at h2
          have h3 : Post X.K G A Wx (DR X.K) M2 H2 σ (if m.length < 16777216 then (match lookK k m with
            | some z => .ok z sl2
            | none => .ok z (sl2.set i (.own b (.dict (m ++ [(kD k, z)]))))) else .stuck) Q := h2
          by_cases c2 : m.length < 16777216
          · rw [if_pos c2] at h3
            obtain ⟨p', ks, xs, vs, em, el, f1, f2, f3, f4⟩ := S2.ownD q
            rw [e1] at f1; cases f1
            obtain ⟨l1, l2⟩ := look_rel k el f3
            rw [← em] at l1 l2
            have lx : xs.length = ks.length := by rw [f3.length, el]
            have lm : m.length = (ks.zip vs).length := by
              rw [em, List.length_zip, List.length_zip, List.length_map, lx, ← el]
            refine ⟨_, k, f2, (keyOf_rel r1 qk).1, by rw [line_eq, ← lm]; exact c2, fun w hw => ?_, fun hn => ?_⟩
            · cases g : lookK k m with
              | none => rw [l2 g] at hw; cases hw
              | some d =>
                rw [g] at h3
                obtain ⟨w', g1, g2⟩ := l1 d g
                rw [hw] at g1; cases g1
                exact Post.done S2 h3 g2
            · cases g : lookK k m with
              | some d =>
                obtain ⟨w', g1, g2⟩ := l1 d g
                rw [hn] at g1; cases g1
              | none =>
                rw [g] at h3
                rw [putK_new _ hn, ← zip_snoc k u el]
                have st : Step M2 H2 M2 (upd H2 p (.dK ((ks ++ [k]).zip (vs ++ [u])))) := fun d u' n e _ => ⟨n, by rw [upd_ne (fun z => n (by rw [z]; exact f4))]; exact e⟩
                have mr : MR X.K M2 (upd H2 p (.dK ((ks ++ [k]).zip (vs ++ [u])))) (.dict (m ++ [(kD k, z)])) p := by
                  refine .inr ⟨ks ++ [k], xs ++ [z], vs ++ [u], ?_, by rw [List.length_append, List.length_append, el]; rfl, upd_same, (f3.append (.cons r2 .nil)).step st⟩
                  rw [em, List.map_append, List.map_cons, List.map_nil, zip_snoc _ _ (by rw [List.length_map, lx])]
                obtain ⟨s3, S3⟩ := S2.change (nth_own q) e1 fx_dK (dK_ntbl f2).1 (dK_ntbl f2).2 mr
                exact h3 _ _ M2 s3 S3 (r2.step s3)
          · rw [if_neg c2] at h3; exact h3.elim
      | _ => exact h2.elim
    | _ => rw [q] at h2; exact h2.elim
  · rw [if_neg c] at h; exact h.elim
end
end DE
namespace DE
open PySem PySem.Spec PyProof.Rows L2

/-! ### comprehensions -/
def iozW : W → W
  | .own _ c => .own true c
  | w => w
/-- all owned things as the callers' -/
def ioz (sl : Sl) : Sl := sl.map iozW
def wipeS (sl : Sl) : List Nat → Sl
  | [] => sl
  | v :: vs => (wipeS sl vs).set v .un
def backW : W → W → W
  | .own b _, .own _ c => .own b c
  | w, _ => w
/-- behind a part: the owned contents as they are now, all else as ahead -/
def backS : Sl → Sl → Sl
  | w :: ws, u :: us => backW w u :: backS ws us
  | ws, _ => ws
def notOwn (sl : Sl) (i : Nat) : Bool := match nth sl i with
  | .own _ _ => false
  | _ => true
def compLoop (vs : List Nat) (g : D → Sl → Option Sl) (tt : Tx) (te : Ex) : List D → Sl → R (List D)
  | [], cur => .ok [] cur
  | x :: r, cur => match g x (ioz (wipeS cur vs)) with
    | none => .stuck
    | some s1 => match tt s1 with
      | .ok true s2 => (match te s2 with
        | .ok y s3 => (match compLoop vs g tt te r (backS cur s3) with
          | .ok ys c => .ok (y :: ys) c
          | _ => .stuck)
        | _ => .stuck)
      | .ok false s2 => compLoop vs g tt te r (backS cur s2)
      | _ => .stuck
def eComp (items : Exs) (vs : List Nat) (g : D → Sl → Option Sl) (tt : Tx) (te : Ex) : Ex := fun sl => (items sl).bind fun ds sl =>
  if ds.length ≤ 16777216 ∧ vs.all (notOwn sl) = true then (match compLoop vs g tt te ds sl with
    | .ok ys c => .ok (.list ys) c
    | _ => .stuck) else .stuck
def tYes' : Tx := fun sl => .ok true sl

theorem nth_of : ∀ {sl : Sl} {i : Nat} {w : W}, sl[i]? = some w → nth sl i = w
  | [], _, _, h => by simp at h
  | _ :: _, 0, _, h => by simpa [nth] using h
  | _ :: r, n + 1, w, h => nth_of (sl := r) (i := n) (by simpa using h)
theorem notOwn_ne {sl : Sl} {i : Nat} (h : notOwn sl i = true) : ∀ (b : Bool) (c : D), sl[i]? ≠ some (.own b c) := fun b c z => by
  unfold notOwn at h
  rw [nth_of z] at h
  cases h
theorem ioz_get {sl : Sl} {i : Nat} {w : W} (h : (ioz sl)[i]? = some w) : ∃ u, sl[i]? = some u ∧ w = iozW u := by
  unfold ioz at h
  rw [List.getElem?_map] at h
  cases e : sl[i]? with
  | none => rw [e] at h; cases h
  | some u => rw [e] at h; exact ⟨u, rfl, (Option.some.inj h).symm⟩
theorem wipeS_len (sl : Sl) : ∀ vs : List Nat, (wipeS sl vs).length = sl.length
  | [] => rfl
  | v :: vs => by unfold wipeS; rw [List.length_set, wipeS_len sl vs]
theorem wipeS_get {sl : Sl} {i : Nat} {w : W} : ∀ {vs : List Nat}, (wipeS sl vs)[i]? = some w → w ≠ .un → sl[i]? = some w ∧ i ∉ vs
  | [], h, _ => ⟨h, by simp⟩
  | v :: vs, h, n => by
    unfold wipeS at h
    rcases get_set h with ⟨_, z⟩ | ⟨hne, z⟩
    · exact absurd z n
    · obtain ⟨h1, h2⟩ := wipeS_get (vs := vs) z n
      exact ⟨h1, fun q => (List.mem_cons.mp q).elim hne h2⟩
theorem wipeS_keep {sl : Sl} {i : Nat} : ∀ {vs : List Nat}, i ∉ vs → (wipeS sl vs)[i]? = sl[i]?
  | [], _ => rfl
  | v :: vs, h => by
    unfold wipeS
    rw [List.getElem?_set_ne (fun z => h (by rw [z]; exact List.mem_cons_self)), wipeS_keep fun q => h (List.mem_cons_of_mem _ q)]
theorem wipe_keep {σ : L2.St} {i : Nat} : ∀ {vs : List Nat}, i ∉ vs → (wipe σ vs)[i]? = σ[i]?
  | [], _ => rfl
  | v :: vs, h => by
    unfold wipe
    rw [List.getElem?_set_ne (fun z => h (by rw [z]; exact List.mem_cons_self)), wipe_keep fun q => h (List.mem_cons_of_mem _ q)]
theorem wipe_at {σ : L2.St} {i : Nat} : ∀ {vs : List Nat}, i ∈ vs → (wipe σ vs)[i]? = if i < σ.length then some none else none
  | [], h => by cases h
  | v :: vs, h => by
    unfold wipe
    by_cases e : v = i
    · subst e
      by_cases hl : v < σ.length
      · rw [if_pos hl, List.getElem?_set_self (by rw [wipe_length]; exact hl)]
      · rw [if_neg hl, List.getElem?_eq_none (by rw [List.length_set, wipe_length]; omega)]
    · rw [List.getElem?_set_ne e]
      exact wipe_at ((List.mem_cons.mp h).resolve_left fun z => e z.symm)
theorem wipe_same {σ σ' : L2.St} {js vs : List Nat} (h : SameBut js σ σ') (hj : ∀ i ∈ js, i ∈ vs) : wipe σ' vs = wipe σ vs := by
  apply List.ext_getElem?
  intro i
  by_cases c : i ∈ vs
  · rw [wipe_at c, wipe_at c, h.1]
  · rw [wipe_keep c, wipe_keep c]
    exact h.2 i fun z => c (hj i z)
theorem wipe_wipe {σ : L2.St} {vs : List Nat} : wipe (wipe σ vs) vs = wipe σ vs := by
  apply List.ext_getElem?
  intro i
  by_cases c : i ∈ vs
  · rw [wipe_at c, wipe_at c, wipe_length]
  · rw [wipe_keep c]
theorem backS_len : ∀ (ws us : Sl), (backS ws us).length = ws.length
  | [], _ => by cases ‹Sl› <;> rfl
  | w :: ws, [] => rfl
  | w :: ws, u :: us => by
    show (backS ws us).length + 1 = ws.length + 1
    rw [backS_len ws us]
theorem backS_get : ∀ {ws us : Sl} {i : Nat} {w : W}, (backS ws us)[i]? = some w → ∃ w0, ws[i]? = some w0 ∧ ((∃ u, us[i]? = some u ∧ w = backW w0 u) ∨ (us[i]? = none ∧ w = w0))
  | [], us, i, w, h => by
    have e : backS [] us = [] := by cases us <;> rfl
    rw [e] at h; simp at h
  | w0 :: ws, [], i, w, h => ⟨w, h, .inr ⟨by simp, rfl⟩⟩
  | w0 :: ws, u :: us, 0, w, h => by
    have e : backW w0 u = w := Option.some.inj h
    exact ⟨w0, rfl, .inl ⟨u, rfl, e.symm⟩⟩
  | w0 :: ws, u :: us, i + 1, w, h => by
    obtain ⟨w1, h1, h2⟩ := backS_get (ws := ws) (us := us) (i := i) (w := w) h
    exact ⟨w1, h1, h2⟩
section
variable {K : PySem.W.Frag} {G : Gb} {A A2 : Act} {M M' M1 : Addr → Prop} {sl s1 : Sl} {σ σ' : L2.St} {H H' H1 : Hp}
theorem StR.wipe (S : StR K G A M sl σ H) (vs : List Nat) (h : ∀ i ∈ vs, notOwn sl i = true) : StR K G A M (wipeS sl vs) (L2.wipe σ vs) H := by
  have g : ∀ {i : Nat} {w : W}, (wipeS sl vs)[i]? = some w → w ≠ .un → sl[i]? = some w ∧ (L2.wipe σ vs)[i]? = σ[i]? := fun {i w} e n => by
    obtain ⟨h1, h2⟩ := wipeS_get e n
    exact ⟨h1, wipe_keep h2⟩
  refine ⟨S.out, by rw [wipeS_len, wipe_length]; exact S.len, fun i x e => ?_, fun i ns e => ?_, fun i b c e => ?_, fun i j a b c b' c' hij e1 e2 => ?_, fun p hp => ?_⟩
  · obtain ⟨h1, h2⟩ := g e (fun z => nomatch z)
    rw [h2]
    exact S.val i x h1
  · obtain ⟨h1, h2⟩ := g e (fun z => nomatch z)
    rw [h2]
    exact S.scr i ns h1
  · obtain ⟨h1, h2⟩ := g e (fun z => nomatch z)
    rw [h2]
    exact S.own i b c h1
  · obtain ⟨h1, h2⟩ := g e1 (fun z => nomatch z)
    obtain ⟨h3, h4⟩ := g e2 (fun z => nomatch z)
    rw [h2, h4]
    exact S.apart i j a b c b' c' hij h1 h3
  · obtain ⟨c, q1, q2⟩ := S.io p hp
    have hv : p.1 ∉ vs := fun z => notOwn_ne (h _ z) _ _ q1
    exact ⟨c, by rw [wipeS_keep hv]; exact q1, by rw [wipe_keep hv]; exact q2⟩
/-- the owned slots and their things -/
def ioList (sl : Sl) (σ : L2.St) : List (Nat × Addr) := (List.range sl.length).filterMap fun i => match nth sl i, σ[i]? with
  | .own _ _, some (some (.ref a)) => some (i, a)
  | _, _ => none
theorem mem_ioList {i : Nat} {a : Addr} (hl : sl.length = σ.length) : (i, a) ∈ ioList sl σ ↔ (∃ b c, sl[i]? = some (.own b c)) ∧ σ[i]? = some (some (.ref a)) := by
  unfold ioList
  rw [List.mem_filterMap]
  constructor
  · rintro ⟨j, hj, e⟩
    cases e1 : nth sl j with
    | own b c =>
      cases e2 : σ[j]? with
      | none => rw [e1, e2] at e; cases e
      | some o =>
        cases o with
        | none => rw [e1, e2] at e; cases e
        | some v =>
          cases v with
          | ref p =>
            rw [e1, e2] at e
            cases e
            exact ⟨⟨b, c, nth_own e1⟩, e2⟩
          | _ => rw [e1, e2] at e; cases e
    | _ => rw [e1] at e; cases e
  · rintro ⟨⟨b, c, e1⟩, e2⟩
    have hi := (List.getElem?_eq_some_iff.mp e1).1
    exact ⟨i, List.mem_range.mpr hi, by rw [nth_of e1, e2]⟩
/-- a part is begun: all that is owned here is the callers' for it -/
theorem StR.inner (S : StR K G A M sl σ H) : StR K G ⟨M, H, ioList sl σ⟩ M (ioz sl) σ H := by
  have o := S.out
  refine ⟨⟨o.live, o.live, Step.refl M H, fun a u m _ e _ => ⟨m, e⟩, o.tabs⟩, by unfold ioz; rw [List.length_map]; exact S.len, fun i x e => ?_, fun i ns e => ?_, fun i b c e => ?_, fun i j a b c b' c' hij e1 e2 => ?_, fun p hp => ?_⟩
  · obtain ⟨u, h1, h2⟩ := ioz_get e
    cases u <;> cases h2
    exact S.val i x h1
  · obtain ⟨u, h1, h2⟩ := ioz_get e
    cases u <;> cases h2
    exact S.scr i ns h1
  · obtain ⟨u, h1, h2⟩ := ioz_get e
    cases u <;> cases h2
    rename_i b0
    obtain ⟨a, q1, q2, q3, _⟩ := S.own i b0 c h1
    have hm : (i, a) ∈ ioList sl σ := (mem_ioList S.len).mpr ⟨⟨b0, c, h1⟩, q1⟩
    exact ⟨a, q1, q2, q3, fun _ => ⟨i, hm⟩, fun _ => hm⟩
  · obtain ⟨u, h1, h2⟩ := ioz_get e1
    obtain ⟨u', h3, h4⟩ := ioz_get e2
    cases u <;> cases h2
    cases u' <;> cases h4
    exact S.apart i j a _ c _ c' hij h1 h3
  · obtain ⟨i, a⟩ := p
    obtain ⟨⟨b, c, e1⟩, e2⟩ := (mem_ioList S.len).mp hp
    exact ⟨c, by unfold ioz; rw [List.getElem?_map, e1]; rfl, e2⟩
/-- .. and ended -/
theorem StR.outer {sw : Sl} {σw : L2.St} (S : StR K G A M sl σ H) (hs : ∀ (i : Nat) (b : Bool) (c : DE.D), sl[i]? = some (.own b c) → sw[i]? = some (.own b c) ∧ σw[i]? = σ[i]?) (hlw : sw.length = σw.length)
    (hr : ∀ (i : Nat) (b : Bool) (c : DE.D), sw[i]? = some (.own b c) → sl[i]? = some (.own b c) ∧ σw[i]? = σ[i]?)
    (s : Step M H M' H') (S2 : StR K G ⟨M, H, ioList sw σw⟩ M' s1 σ' H') : StR K G A M' (backS sl s1) σ H' := by
  have o2 := S2.out
  -- an owned slot behind the part
  have at2 : ∀ (i : Nat) (b : Bool) (c : D), sl[i]? = some (.own b c) → ∃ a c', σ[i]? = some (some (.ref a)) ∧ s1[i]? = some (.own true c') ∧ MR K M' H' c' a ∧ M' a := fun i b c e => by
    obtain ⟨a, q1, _⟩ := S.own i b c e
    obtain ⟨e', eσ⟩ := hs i b c e
    have hm : (i, a) ∈ ioList sw σw := (mem_ioList hlw).mpr ⟨⟨b, c, e'⟩, by rw [eσ]; exact q1⟩
    obtain ⟨c', h1, h2⟩ := S2.io (i, a) hm
    obtain ⟨a', h3, h4, h5, _⟩ := S2.own i true c' h1
    have h2' : σ'[i]? = some (some (.ref a)) := h2
    rw [h2'] at h3
    cases h3
    exact ⟨a, c', q1, h1, h4, h5⟩
  refine ⟨⟨S.out.live0, o2.live, S.out.stp.trans s, fun a u m np e f => ?_, o2.tabs⟩, by rw [backS_len]; exact S.len, fun i x e => ?_, fun i ns e => ?_, fun i b c e => ?_, fun i j a b c b' c' hij e1 e2 => ?_, fun p hp => ?_⟩
  · obtain ⟨h1, h2⟩ := S.out.oth a u m np e f
    refine o2.oth a u h1 (fun ⟨i, hi⟩ => ?_) h2 f
    obtain ⟨⟨b, c, e1⟩, e2⟩ := (mem_ioList hlw).mp hi
    obtain ⟨h3, h4⟩ := hr i b c e1
    obtain ⟨a', q1, _, _, q4, _⟩ := S.own i b c h3
    rw [h4, q1] at e2
    cases e2
    exact np (q4 m)
  · obtain ⟨w0, h1, h2⟩ := backS_get e
    have hw : w0 = .d x := by
      rcases h2 with ⟨u, _, h2⟩ | ⟨_, h2⟩
      · cases w0 with
        | own b c => cases u <;> cases h2
        | _ => cases u <;> exact h2.symm
      · exact h2.symm
    subst hw
    obtain ⟨v, q1, q2⟩ := S.val i x h1
    exact ⟨v, q1, q2.step s⟩
  · obtain ⟨w0, h1, h2⟩ := backS_get e
    have hw : w0 = .scr ns := by
      rcases h2 with ⟨u, _, h2⟩ | ⟨_, h2⟩
      · cases w0 with
        | own b c => cases u <;> cases h2
        | _ => cases u <;> exact h2.symm
      · exact h2.symm
    subst hw
    obtain ⟨v, q1, q2⟩ := S.scr i ns h1
    exact ⟨v, q1, s.scr q2⟩
  · obtain ⟨w0, h1, h2⟩ := backS_get e
    cases w0 with
    | own b0 c0 =>
      obtain ⟨a, c', q1, q2, q3, q4⟩ := at2 i b0 c0 h1
      obtain ⟨_, p1, _, _, p4, p5⟩ := S.own i b0 c0 h1
      rw [q1] at p1; cases p1
      rcases h2 with ⟨u, h2, h3⟩ | ⟨h2, _⟩
      · rw [q2] at h2
        cases h2
        cases h3
        exact ⟨a, q1, q3, q4, p4, p5⟩
      · rw [q2] at h2; cases h2
    | _ => rcases h2 with ⟨u, _, h2⟩ | ⟨_, h2⟩ <;> first | (cases u <;> cases h2) | cases h2
  · obtain ⟨w0, h1, h2⟩ := backS_get e1
    obtain ⟨w1, h3, h4⟩ := backS_get e2
    have o0 : ∃ b c, w0 = .own b c := by
      rcases h2 with ⟨u, _, h2⟩ | ⟨_, h2⟩
      · cases w0 with
        | own b c => exact ⟨b, c, rfl⟩
        | _ => cases u <;> cases h2
      · exact ⟨b, c, h2.symm⟩
    have o1 : ∃ b c, w1 = .own b c := by
      rcases h4 with ⟨u, _, h4⟩ | ⟨_, h4⟩
      · cases w1 with
        | own b c => exact ⟨b, c, rfl⟩
        | _ => cases u <;> cases h4
      · exact ⟨b', c', h4.symm⟩
    obtain ⟨b0, c0, rfl⟩ := o0
    obtain ⟨b1, c1, rfl⟩ := o1
    exact S.apart i j a b0 c0 b1 c1 hij h1 h3
  · obtain ⟨c, q1, q2⟩ := S.io p hp
    obtain ⟨a, c', r1, r2, r3, r4⟩ := at2 p.1 true c q1
    refine ⟨c', ?_, q2⟩
    have : ∀ (ws us : Sl) (i : Nat) (b : Bool) (c c' : D), ws[i]? = some (.own b c) → us[i]? = some (.own true c') → (backS ws us)[i]? = some (.own b c') := by
      intro ws
      induction ws with
      | nil => intro us i b c c' h _; simp at h
      | cons w ws ih =>
        intro us i b c c' h1 h2
        cases us with
        | nil => simp at h2
        | cons u us =>
          cases i with
          | zero =>
            have e1 : w = .own b c := by simpa using h1
            have e2 : u = .own true c' := by simpa using h2
            subst e1 e2
            rfl
          | succ i => exact ih us i b c c' (by simpa using h1) (by simpa using h2)
    exact this sl s1 p.1 true c c' q1 r2
/-- an owned thing that stands in no slot is written -/
theorem StR.pend {p : Addr} {o : HO} (S : StR K G A M sl σ H) (mp : M p) (n0 : ¬ A.M0 p) (no : ∀ (j : Nat) (b : Bool) (c' : D), sl[j]? = some (.own b c') → σ[j]? ≠ some (some (.ref p))) {vs : List V} (hv : H p = some (.lst vs)) (fo : Fx o) :
    Step M H M (upd H p o) ∧ StR K G A M sl σ (upd H p o) := by
  have st : Step M H M (upd H p o) := fun d u n e _ => ⟨n, by rw [upd_ne (fun z => n (by rw [z]; exact mp))]; exact e⟩
  have w := S.out
  have ne_a : ∀ d u, H d = some u → (∃ q, u = LamX.CodeO d q) ∨ (∃ ps, u = .tbl ps) → d ≠ p := fun d u e q z => by
    subst z
    rcases q with ⟨q, rfl⟩ | ⟨ps, rfl⟩
    · exact (lst_ntbl hv).2 q e
    · exact (lst_ntbl hv).1 ps e
  refine ⟨st, ⟨w.live0, fun d z => ?_, w.stp.trans st, fun d u m0' np e f => ?_, fun q hq => ?_⟩, S.len, fun i x e => ?_, fun i ns e => ?_, fun i b c e => ?_, S.apart, S.io⟩
  · by_cases hd : d = p
    · exact ⟨o, by rw [hd, upd_same], fo⟩
    · rw [upd_ne hd]; exact w.live d z
  · rw [upd_ne (fun z => n0 (by rw [← z]; exact m0'))]
    exact w.oth d u m0' np e f
  · obtain ⟨ps, h1, h2, h3⟩ := w.tabs q hq
    refine ⟨ps, by rw [upd_ne (ne_a _ _ h1 (.inr ⟨_, rfl⟩))]; exact h1, h2, fun pos cv hc => ?_⟩
    obtain ⟨x, q1, q2⟩ := h3 pos cv hc
    exact ⟨x, q1, by rw [upd_ne (ne_a _ _ q2 (.inl ⟨_, rfl⟩))]; exact q2⟩
  · obtain ⟨v, q1, q2⟩ := S.val i x e
    exact ⟨v, q1, q2.step st⟩
  · obtain ⟨v, q1, q2⟩ := S.scr i ns e
    exact ⟨v, q1, st.scr q2⟩
  · obtain ⟨a, q1, q2, q3⟩ := S.own i b c e
    refine ⟨a, q1, q2.step st fun u e' _ => ?_, q3⟩
    rw [upd_ne]
    · exact e'
    · intro z
      subst z
      exact no i b c e q1
/-- .. is let go -/
theorem StR.unpend {p : Addr} (S : StR K G A M sl σ H) (n0 : ¬ A.M0 p) (no : ∀ (j : Nat) (b : Bool) (c' : D), sl[j]? = some (.own b c') → σ[j]? ≠ some (some (.ref p))) :
    Step M H (fun b => M b ∧ b ≠ p) H ∧ StR K G A (fun b => M b ∧ b ≠ p) sl σ H := by
  have st : Step M H (fun b => M b ∧ b ≠ p) H := fun b o n e _ => ⟨fun z => n z.1, e⟩
  have w := S.out
  refine ⟨st, ⟨w.live0, fun d z => w.live d z.1, w.stp.trans st, fun d u m0' np e f => ⟨⟨(w.oth d u m0' np e f).1, fun z => n0 (by rw [← z]; exact m0')⟩, (w.oth d u m0' np e f).2⟩, w.tabs⟩, S.len, fun i x e => ?_, fun i ns e => ?_, fun i b c e => ?_, S.apart, S.io⟩
  · obtain ⟨v, q1, q2⟩ := S.val i x e
    exact ⟨v, q1, q2.step st⟩
  · obtain ⟨v, q1, q2⟩ := S.scr i ns e
    exact ⟨v, q1, st.scr q2⟩
  · obtain ⟨a, q1, q2, q3, q4⟩ := S.own i b c e
    refine ⟨a, q1, q2.step st fun u e' _ => e', ⟨q3, fun z => ?_⟩, q4⟩
    subst z
    exact no i b c e q1
theorem StR.noslot {p : Addr} (S : StR K G A M sl σ H) (no : ∀ (j : Nat) (b : Bool) (c' : D), sl[j]? = some (.own b c') → σ[j]? ≠ some (some (.ref p))) (S2 : StR K G A M' s1 σ H') (h : ∀ (j : Nat) (b : Bool) (c : D), s1[j]? = some (.own b c) → ∃ b' c', sl[j]? = some (.own b' c')) :
    ∀ (j : Nat) (b : Bool) (c' : D), s1[j]? = some (.own b c') → σ[j]? ≠ some (some (.ref p)) := fun j b c e => by
  obtain ⟨b', c', h1⟩ := h j b c e
  exact no j b' c' h1
end
theorem back_own {ws us : Sl} {j : Nat} {b : Bool} {c : D} (h : (backS ws us)[j]? = some (.own b c)) : ∃ c', ws[j]? = some (.own b c') := by
  obtain ⟨w0, h1, h2⟩ := backS_get h
  rcases h2 with ⟨u, _, h2⟩ | ⟨_, h2⟩
  · cases w0 with
    | own b0 c0 =>
      cases u <;> cases h2 <;> exact ⟨_, h1⟩
    | _ => cases u <;> cases h2
  · exact ⟨c, by rw [h1, ← h2]⟩
theorem back_notOwn {ws us : Sl} {j : Nat} (h : notOwn ws j = true) : notOwn (backS ws us) j = true := by
  unfold notOwn
  cases e : nth (backS ws us) j with
  | own b c =>
    obtain ⟨c', h1⟩ := back_own (nth_own e)
    exact absurd h1 (notOwn_ne h b c')
  | _ => rfl
theorem PE.ex {X : Cx} {e : Expr} {ι : Type} {t : ι → TE} (h : ∀ i, PE X e (t i)) : PE X e (fun σ H Q => ∃ i, t i σ H Q) := ⟨fun pins s σ H Q I ⟨i, hw⟩ => (h i).run pins s σ H Q I hw⟩
theorem PTs.ex {X : Cx} {e : List Expr} {ι : Type} {t : ι → TT} (h : ∀ i, PTs X e (t i)) : PTs X e (fun σ H Q => ∃ i, t i σ H Q) := ⟨fun pins s σ H Q I ⟨i, hw⟩ => (h i).run pins s σ H Q I hw⟩
theorem PG.ex {X : Cx} {e : Expr} {ι : Type} {t : ι → TG} (h : ∀ i, PG X e (t i)) : PG X e (fun v σ H Q => ∃ i, t i v σ H Q) := ⟨fun pins s σ H v u Q I r ⟨i, hw⟩ => (h i).run pins s σ H v u Q I r hw⟩
theorem PTs.imp {X : Cx} {e : List Expr} {t t' : TT} (h : PTs X e t) (k : ∀ σ H Q, t' σ H Q → t σ H Q) : PTs X e t' := ⟨fun pins s σ H Q I hw => h.run pins s σ H Q I (k σ H Q hw)⟩
/-- no exception leaves -/
abbrev W0 : WX := fun _ _ _ _ => False
section
variable {X : Cx} {G : Gb} {A : Act} {Wx : WX} {elt tg iter : Expr} {ifs : List Expr} {scope : Scope} {own : List (Str × Nat)} {pos : Pos} {ei : Exs} {g : D → Sl → Option Sl} {tt : Tx} {te : Ex}
theorem pts_yes : PTs X [] (tT X.K G A Wx tYes') := PTs.imp pts_nil fun σ H Q ⟨M, sl, S, h⟩ => Post.done S h rfl
theorem pts_if {c : Expr} (h : PT X c (tT X.K G A Wx tt)) : PTs X [c] (tT X.K G A Wx tt) := pts_one h
/-- the mirror's turns, read by the layer's word for comprehensions -/
theorem lc_read {vs js : List Nat} (hj : ∀ i ∈ js, i ∈ vs) {σ : L2.St} {H : Hp} {Q : VK} (h : tE X.K G A Wx (eComp ei vs g tt te) σ H Q) :
    tLc (tI X.K G A Wx ei) (fun v σ H Q => ∃ A2, tG X.K G A2 js g v σ H Q) (fun σ H Q => ∃ A2, tT X.K G A2 W0 tt σ H Q) (fun σ H Q => ∃ A2, tE X.K G A2 W0 te σ H Q) vs σ H Q := by
  obtain ⟨M, sl, S, h⟩ := h
  refine tX.bind S h fun M1 ds sl1 J H1 s1 S1 y h1 Dd hD => ?_
  by_cases c : ds.length ≤ 16777216 ∧ vs.all (notOwn sl1) = true
  case neg => rw [if_neg c] at h1; exact h1.elim
  rw [if_pos c] at h1
  have hv : ∀ i ∈ vs, notOwn sl1 i = true := fun i hi => List.all_eq_true.mp c.2 i hi
  obtain ⟨M2, s2, S2, mD, n0, no, dr⟩ := S1.newOwn (o := .lst []) hD fx_lst
  cases ec : compLoop vs g tt te ds sl1 with
  | stuck => rw [ec] at h1; exact h1.elim
  | exc x => rw [ec] at h1; exact h1.elim
  | ok ys cend =>
  rw [ec] at h1
  have h1' : Post X.K G A Wx (DR X.K) M1 H1 σ (.ok (.list ys) cend) Q := h1
  refine ⟨fun i m H => m = ds.length - i ∧ i ≤ ds.length ∧ ∃ M cur acc done rest, Step M1 H1 M H ∧ StR X.K G A M cur σ H ∧ H Dd = some (.lst acc) ∧ DRs X.K M H done acc ∧ M Dd ∧ (∀ (j : Nat) (b : Bool) (c' : DE.D), cur[j]? = some (.own b c') → σ[j]? ≠ some (some (.ref Dd))) ∧
      (∀ i ∈ vs, notOwn cur i = true) ∧ done.length ≤ i ∧ compLoop vs g tt te (ds.drop i) cur = .ok rest cend ∧ done ++ rest = ys,
    ⟨ds.length, by simp, Nat.zero_le _, M2, sl1, [], [], ys, s2, S2, upd_same, .nil, mD, no, hv, Nat.le_refl _, ec, rfl⟩, ?_⟩
  rintro i m H ⟨rfl, hil, M, cur, acc, done, rest, s, S, eD, dD, mD, no, hv, dl, ec, ey⟩
  obtain ⟨yg, ystop⟩ := y M H s S.out.live
  by_cases hlt : i < ds.length
  case neg =>
    have e : i = ds.length := by omega
    subst e
    rw [List.drop_length] at ec
    have e1 : R.ok [] cur = R.ok rest cend := ec
    cases e1
    rw [List.append_nil] at ey
    subst ey
    refine .inl ⟨ystop, ?_⟩
    obtain ⟨su, Su⟩ := S.unpend n0 no
    exact h1' _ H _ (s.trans su) Su (.lst eD (fun z => z.2 rfl) (dD.step su))
  have ex : ds[i]? = some ds[i] := List.getElem?_eq_getElem hlt
  have ed : ds.drop i = ds[i] :: ds.drop (i + 1) := List.drop_eq_getElem_cons hlt
  rw [ed] at ec
  obtain ⟨go, yl⟩ := yg i _ ex
  refine .inr ⟨go, fun H' => i + 1 ≤ ds.length ∧ ∃ M cur acc done rest, Step M1 H1 M H' ∧ StR X.K G A M cur σ H' ∧ H' Dd = some (.lst acc) ∧ DRs X.K M H' done acc ∧ M Dd ∧ (∀ (j : Nat) (b : Bool) (c' : DE.D), cur[j]? = some (.own b c') → σ[j]? ≠ some (some (.ref Dd))) ∧
      (∀ i ∈ vs, notOwn cur i = true) ∧ done.length ≤ i + 1 ∧ compLoop vs g tt te (ds.drop (i + 1)) cur = .ok rest cend ∧ done ++ rest = ys, fun H' ⟨q1, q2⟩ => ⟨ds.length - (i + 1), by omega, rfl, q1, q2⟩, fun x H' hy => ?_⟩
  obtain ⟨k, drx⟩ := yl x H' hy
  have S' := S.keep k
  have sk : Step M H M H' := fun a u n e _ => ⟨n, k a u e⟩
  have eD' := k _ _ eD
  have dD' := dD.step sk
  have Sw := S'.wipe vs hv
  have Si := Sw.inner
  have ec2 : (match g ds[i] (ioz (wipeS cur vs)) with
    | none => .stuck
    | some s1 => match tt s1 with
      | .ok true s2 => (match te s2 with
        | .ok y s3 => (match compLoop vs g tt te (ds.drop (i + 1)) (backS cur s3) with
          | .ok ys c => .ok (y :: ys) c
          | _ => .stuck)
        | _ => .stuck)
      | .ok false s2 => compLoop vs g tt te (ds.drop (i + 1)) (backS cur s2)
      | _ => .stuck) = R.ok rest cend := ec
  cases eg : g ds[i] (ioz (wipeS cur vs)) with
  | none => rw [eg] at ec2; cases ec2
  | some t1 =>
  rw [eg] at ec2
  refine ⟨_, M, _, ds[i], Si, drx, t1, eg, fun σ2 M3 sb3 s3 S3 => ?_⟩
  have wσ : wipe σ2 vs = wipe σ vs := (wipe_same sb3 hj).trans wipe_wipe
  refine ⟨wσ, _, M3, t1, S3, ?_⟩
  have hs : ∀ (i : Nat) (b : Bool) (c : DE.D), cur[i]? = some (.own b c) → (wipeS cur vs)[i]? = some (.own b c) ∧ (wipe σ vs)[i]? = σ[i]? := fun i b c e => by
    have q : i ∉ vs := fun z => notOwn_ne (hv i z) b c e
    exact ⟨by rw [wipeS_keep q]; exact e, wipe_keep q⟩
  have hr : ∀ (i : Nat) (b : Bool) (c : DE.D), (wipeS cur vs)[i]? = some (.own b c) → cur[i]? = some (.own b c) ∧ (wipe σ vs)[i]? = σ[i]? := fun i b c e => by
    obtain ⟨h1, h2⟩ := wipeS_get e (fun z => nomatch z)
    exact ⟨h1, wipe_keep h2⟩
  have nP : ¬ Act.P ⟨M, H', ioList (wipeS cur vs) (wipe σ vs)⟩ Dd := fun ⟨i, hi⟩ => by
    obtain ⟨⟨b, c, e1⟩, e2⟩ := (mem_ioList Sw.len).mp hi
    obtain ⟨h3, h4⟩ := hr i b c e1
    rw [h4] at e2
    exact no i b c h3 e2
  -- what a part leaves
  have after : ∀ {M4 : Addr → Prop} {s4 : Sl} {H4 : Hp}, Step M3 H' M4 H4 → StR X.K G ⟨M, H', ioList (wipeS cur vs) (wipe σ vs)⟩ M4 s4 σ2 H4 →
      Step M1 H1 M4 H4 ∧ StR X.K G A M4 (backS cur s4) σ H4 ∧ H4 Dd = some (.lst acc) ∧ DRs X.K M4 H4 done acc ∧ M4 Dd := fun {M4 s4 H4} s4 S4 => by
    have sall : Step M H' M4 H4 := s3.trans s4
    obtain ⟨q1, q2⟩ := S4.out.oth Dd _ mD nP eD' fx_lst
    exact ⟨(s.trans sk).trans sall, S'.outer hs Sw.len hr sall S4, q2, dD'.step sall, q1⟩
  have no' : ∀ {s4 : Sl} (j : Nat) (b : Bool) (c' : DE.D), (backS cur s4)[j]? = some (.own b c') → σ[j]? ≠ some (some (.ref Dd)) := fun {s4} j b c' e => by
    obtain ⟨c2, q⟩ := back_own e
    exact no j b c2 q
  have ec5 : (match tt t1 with
      | .ok true s2 => (match te s2 with
        | .ok y s3 => (match compLoop vs g tt te (ds.drop (i + 1)) (backS cur s3) with
          | .ok ys c => .ok (y :: ys) c
          | _ => .stuck)
        | _ => .stuck)
      | .ok false s2 => compLoop vs g tt te (ds.drop (i + 1)) (backS cur s2)
      | _ => .stuck) = R.ok rest cend := ec2
  cases et : tt t1 with
  | stuck => rw [et] at ec5; cases ec5
  | exc x => rw [et] at ec5; cases ec5
  | ok kb t2 =>
  rw [et] at ec5
  intro kv H4 M4 s4 S4 ekv
  subst ekv
  cases kb with
  | false =>
    refine iteF ?_
    obtain ⟨a1, a2, a3, a4, a5⟩ := after s4 S4
    exact ⟨hlt, M4, backS cur t2, acc, done, rest, a1, a2, a3, a4, a5, no', fun i hi => back_notOwn (hv i hi), by omega, ec5, ey⟩
  | true =>
    refine iteT ⟨_, M4, t2, S4, ?_⟩
    have ec3 : (match te t2 with
      | .ok y s3 => (match compLoop vs g tt te (ds.drop (i + 1)) (backS cur s3) with
        | .ok ys c => .ok (y :: ys) c
        | _ => .stuck)
      | _ => .stuck) = R.ok rest cend := ec5
    cases ee : te t2 with
    | stuck => rw [ee] at ec3; cases ec3
    | exc x => rw [ee] at ec3; cases ec3
    | ok yv t3 =>
    rw [ee] at ec3
    intro w H5 M5 s5 S5 r5
    obtain ⟨a1, a2, a3, a4, a5⟩ := after (s4.trans s5) S5
    have ec4 : (match compLoop vs g tt te (ds.drop (i + 1)) (backS cur t3) with
        | .ok ys c => .ok (yv :: ys) c
        | _ => .stuck) = R.ok rest cend := ec3
    cases el : compLoop vs g tt te (ds.drop (i + 1)) (backS cur t3) with
    | stuck => rw [el] at ec4; cases ec4
    | exc x => rw [el] at ec4; cases ec4
    | ok zs c =>
    rw [el] at ec4
    have e5 : R.ok (yv :: zs) c = R.ok rest cend := ec4
    cases e5
    have al : acc.length < sizeLine := by
      rw [line_eq, ← a4.length]
      have := c.1
      omega
    refine ⟨acc, a3, al, hlt, ?_⟩
    obtain ⟨sp, Sp'⟩ := a2.pend (o := .lst (acc ++ [w])) a5 n0 no' a3 fx_lst
    exact ⟨M5, backS cur t3, acc ++ [w], done ++ [yv], zs, a1.trans sp, Sp', upd_same, (a4.append (.cons r5 .nil)).step sp, a5, no', fun i hi => back_notOwn (hv i hi), by rw [List.length_append]; simp only [List.length_cons, List.length_nil]; omega, el, by rw [← ey, List.append_assoc]; rfl⟩
theorem r_comp (js : List Nat) (hc : X.calm = true) (hN : X.N.Nodup) (hi : PI X tg iter (tI X.K G A Wx ei)) (ok : BlkOk X.N X.env.scope scope own)
    (hg : ∀ (A2 : Act) (s : Shared) (H : Hp) (C : Addr) (cl : List (Str × Addr)) (fp : List Addr), PG (X.blk s H scope (compEnvC scope cl C X.env) fp) tg (tG X.K G A2 js g))
    (ht : ∀ (A2 : Act) (s : Shared) (H : Hp) (C : Addr) (cl : List (Str × Addr)) (fp : List Addr), PTs (X.blk s H scope (compEnvC scope cl C X.env) fp) ifs (tT X.K G A2 W0 tt))
    (he : ∀ (A2 : Act) (s : Shared) (H : Hp) (C : Addr) (cl : List (Str × Addr)) (fp : List Addr), PE (X.blk s H scope (compEnvC scope cl C X.env) fp) elt (tE X.K G A2 W0 te)) (hj : (js.all fun i => (own.map (·.2)).contains i) = true := by decide) (hs : ∀ x, foldedSetIterable iter X.env x = pure x := by intro _; rfl) :
    PE X (.ListComp elt [⟨tg, iter, ifs, 0⟩] scope pos) (tE X.K G A Wx (eComp ei (own.map (·.2)) g tt te)) :=
  PE.imp (pe_lc hc hN hi ok (fun s H C cl fp => PG.ex fun A2 => hg A2 s H C cl fp) (fun s H C cl fp => PTs.ex fun A2 => ht A2 s H C cl fp) (fun s H C cl fp => PE.ex fun A2 => he A2 s H C cl fp) hs) fun σ H Q h => lc_read (fun i hi => by
    have := List.all_eq_true.mp hj i hi
    simpa using this) h
/-- name = [..] on one line, the name a local -/
theorem s_setLc (i : Nat) {y : Str} {py spos : Pos} (js : List Nat) (hc : X.calm = true) (hN : X.N.Nodup) (hi : PI X tg iter (tI X.K G A Wx ei)) (ok : BlkOk X.N X.env.scope scope own)
    (hg : ∀ (A2 : Act) (s : Shared) (H : Hp) (C : Addr) (cl : List (Str × Addr)) (fp : List Addr), PG (X.blk s H scope (compEnvC scope cl C X.env) fp) tg (tG X.K G A2 js g))
    (ht : ∀ (A2 : Act) (s : Shared) (H : Hp) (C : Addr) (cl : List (Str × Addr)) (fp : List Addr), PTs (X.blk s H scope (compEnvC scope cl C X.env) fp) ifs (tT X.K G A2 W0 tt))
    (he : ∀ (A2 : Act) (s : Shared) (H : Hp) (C : Addr) (cl : List (Str × Addr)) (fp : List Addr), PE (X.blk s H scope (compEnvC scope cl C X.env) fp) elt (tE X.K G A2 W0 te)) (hsw : swapsWith (.ListComp elt [⟨tg, iter, ifs, 0⟩] scope pos) (some (.Name y py)) spos.line X.env = pure true)
    (hy : X.N[i]? = some y := by rfl) (hyl : X.env.scope.names.lookup y = some .local := by rfl) (hj : (js.all fun i => (own.map (·.2)).contains i) = true := by decide) (hs : ∀ x, foldedSetIterable iter X.env x = pure x := by intro _; rfl) :
    PS X (.Assign [.Name y py] (.ListComp elt [⟨tg, iter, ifs, 0⟩] scope pos) spos) (tS X.K G A Wx (sSet i (eComp ei (own.map (·.2)) g tt te))) := by
  refine PS.imp (ps_setLc hc hN hy hyl hsw hi ok (fun s H C cl fp => PG.ex fun A2 => hg A2 s H C cl fp) (fun s H C cl fp => PTs.ex fun A2 => ht A2 s H C cl fp) (fun s H C cl fp => PE.ex fun A2 => he A2 s H C cl fp) hs) fun E σ H ⟨M, sl, S, h⟩ => ?_
  refine lc_read (Wx := Wx) (fun i hi => by
    have := List.all_eq_true.mp hj i hi
    simpa using this) (tX.bindS S h fun M1 x sl1 v H1 s1 S1 r1 h1 => ?_)
  by_cases c : free sl1 i = true
  · rw [if_pos c] at h1
    exact h1 _ H1 M1 (Step.refl M1 H1) (S1.store r1 (free_ne c))
  · rw [if_neg c] at h1
    exact h1.elim
end
end DE
namespace DE
open PySem PySem.Spec PyProof.Rows L2

/-! ### defs and calls -/
def mkFn (np n : Nat) (body : Sx) : Fn := fun as => if as.length = np then (match body (as ++ List.replicate (n - np) .un) with
  | .rt x sl => .ok x (sl.take np)
  | .nx sl => .ok .none (sl.take np)
  | .exc x => .exc x
  | _ => .stuck) else .stuck
def fnStuck : Fn := fun _ => .stuck
def eCall (fn : Fn) (args : Exs) : Ex := fun sl => (args sl).bind fun xs sl => match fn (xs.map .d) with
  | .ok x _ => .ok x sl
  | .exc x => .exc x
  | .stuck => .stuck
/-- f(x, ..), x an owned thing that f may change -/
def eCallIO (fn : Fn) (i : Nat) (args : Exs) : Ex := fun sl => if isOL sl i = true then (args sl).bind fun xs sl => (match nth sl i with
  | .own b c => (match fn (.own true c :: xs.map .d) with
    | .ok x (.own true c' :: _) => .ok x (sl.set i (.own b c'))
    | _ => .stuck)
  | _ => .stuck) else .stuck
def eCallS (fn : Fn) (i : Nat) (args : Exs) : Ex := fun sl => if isScr sl i = true then (args sl).bind fun xs sl => (match nth sl i with
  | .scr ns => (match fn (.scr ns :: xs.map .d) with
    | .ok x _ => .ok x sl
    | .exc x => .exc x
    | .stuck => .stuck)
  | _ => .stuck) else .stuck
def sRaise (c : Nat) : Sx := fun _ => .exc ⟨c, none⟩
structure ArgsR (K : PySem.W.Frag) (M : Addr → Prop) (H : Hp) (as : Sl) (vs : List V) : Prop where
  len : as.length = vs.length
  val : ∀ (i : Nat) (x : D), as[i]? = some (.d x) → ∃ v, vs[i]? = some v ∧ DR K M H x v
  scr : ∀ (i : Nat) (ns : List Int), as[i]? = some (.scr ns) → ∃ a, vs[i]? = some (.ref a) ∧ ScrAt K M H a (ns.map V.int)
  own : ∀ (i : Nat) (b : Bool) (c : D), as[i]? = some (.own b c) → b = true ∧ ∃ a, vs[i]? = some (.ref a) ∧ MR K M H c a ∧ M a
  apart : ∀ (i j : Nat) (a : Addr) (b : Bool) (c : D) (b' : Bool) (c' : D), i ≠ j → as[i]? = some (.own b c) → as[j]? = some (.own b' c') → vs[i]? = some (.ref a) → vs[j]? = some (.ref a) → False
/-- owned things that were not handed in stand -/
def Rest (as : Sl) (vs : List V) (M : Addr → Prop) (H : Hp) (M' : Addr → Prop) (H' : Hp) : Prop := ∀ a o, M a → (∀ (i : Nat) (b : Bool) (c : D), as[i]? = some (.own b c) → vs[i]? ≠ some (.ref a)) → H a = some o → Fx o → M' a ∧ H' a = some o
structure Fin (K : PySem.W.Frag) (G : Gb) (as : Sl) (vs : List V) (M : Addr → Prop) (H : Hp) (outs : Sl) (M' : Addr → Prop) (H' : Hp) : Prop where
  step : Step M H M' H'
  live : Live M' H'
  tabs : LamX.Tabs G.T H'
  rest : Rest as vs M H M' H'
  outs : ∀ (i : Nat) (b : Bool) (c : D) (a : Addr), as[i]? = some (.own b c) → vs[i]? = some (.ref a) → ∃ c', outs[i]? = some (.own true c') ∧ MR K M' H' c' a ∧ M' a
def spOf (K : PySem.W.Frag) (G : Gb) (fn : Fn) : Sp := fun vs H Q E => ∃ M as, ArgsR K M H as vs ∧ Live M H ∧ LamX.Tabs G.T H ∧ match fn as with
  | .ok x outs => ∀ v H' M', Fin K G as vs M H outs M' H' → DR K M' H' x v → Q v H'
  | .exc x => ∀ cls dd H' M', Step M H M' H' → Live M' H' → LamX.Tabs G.T H' → Rest as vs M H M' H' → ExR K G M' H' x cls dd → E cls dd H'
  | .stuck => False
section
variable {K : PySem.W.Frag} {G : Gb} {A : Act} {M M' : Addr → Prop} {sl : Sl} {σ : L2.St} {H H' : Hp}
theorem StR.called (S : StR K G A M sl σ H) (s : Step M H M' H') (l : Live M' H') (t : LamX.Tabs G.T H') (r : ∀ a o, M a → H a = some o → Fx o → M' a ∧ H' a = some o) : StR K G A M' sl σ H' := by
  refine ⟨⟨S.out.live0, l, S.out.stp.trans s, fun a u m np e f => ?_, t⟩, S.len, fun i x e => ?_, fun i ns e => ?_, fun i b c e => ?_, S.apart, S.io⟩
  · obtain ⟨h1, h2⟩ := S.out.oth a u m np e f
    exact r a u h1 h2 f
  · obtain ⟨v, q1, q2⟩ := S.val i x e
    exact ⟨v, q1, q2.step s⟩
  · obtain ⟨v, q1, q2⟩ := S.scr i ns e
    exact ⟨v, q1, s.scr q2⟩
  · obtain ⟨a, q1, q2, q3, q4⟩ := S.own i b c e
    exact ⟨a, q1, q2.step s fun o e' f => (r a o q3 e' f).2, (by obtain ⟨o, e', f⟩ := q2.there; exact (r a o q3 e' f).1), q4⟩
theorem args_d {xs : List D} {vs : List V} (r : DRs K M H xs vs) : ArgsR K M H (xs.map .d) vs := by
  have g : ∀ {i : Nat} {w : W}, (xs.map W.d)[i]? = some w → ∃ x, xs[i]? = some x ∧ w = .d x := fun {i w} e => by
    rw [List.getElem?_map] at e
    cases q : xs[i]? with
    | none => rw [q] at e; cases e
    | some x => rw [q] at e; exact ⟨x, rfl, (Option.some.inj e).symm⟩
  refine ⟨by rw [List.length_map]; exact r.length, fun i x e => ?_, fun i ns e => ?_, fun i b c e => ?_, fun i j a b c b' c' _ e => ?_⟩
  · obtain ⟨y, h1, h2⟩ := g e
    cases h2
    exact r.get h1
  · obtain ⟨y, h1, h2⟩ := g e
    cases h2
  · obtain ⟨y, h1, h2⟩ := g e
    cases h2
  · obtain ⟨y, h1, h2⟩ := g e
    cases h2
theorem noown_d {xs : List D} {i : Nat} {b : Bool} {c : D} : (xs.map W.d)[i]? ≠ some (.own b c) := fun e => by
  rw [List.getElem?_map] at e
  cases q : xs[i]? with
  | none => rw [q] at e; cases e
  | some x => rw [q] at e; cases e
end
section
variable {P : Program} {w : World} {K : PySem.W.Frag} {mg : Str → Option Value} {base : Heap} {G : Gb}
theorem fn_stuck {f : Addr} {fd : FuncData} {ps : List Str} {CX : CXT} (k : Nat) : FnOk P w K mg base CX k f fd ps (spOf K G fnStuck) :=
  ⟨fun _ _ _ _ ⟨_, _, _, _, _, z⟩ => z.elim, fun _ _ _ _ _ _ _ _ _ _ _ _ _ ⟨_, _, _, _, _, z⟩ => z.elim⟩
/-- THE RULE for a def: its mirror is its promise -/
theorem fn_ok {x : Str} {st : Stmt} {f : Addr} {fd : FuncData} {N ps : List Str} {k : Nat} {body : Sx} (F : Fun K x x st f fd) (S : FnScope N ps (defScope st))
    (h : ∀ (A : Act) (E : XK) (cdv : Value) (Ar : Around) (outer : List Env) (s : Shared) (H : Hp), Room k (Ar.deeper (envOfC x (defScope st) s.heap.objs.size f cdv)) →
      PSs (cxOf (L2.CX P w) P w K mg base N x (defScope st) f cdv Ar outer s H E) (defBody st) (tS K G A (fun cls d _ H => E cls d H) body)) : FnOk P w K mg base (L2.CX P w) (k + 1) f fd ps (spOf K G (mkFn ps.length N.length body)) := by
  have len : ∀ vs H Q E, spOf K G (mkFn ps.length N.length body) vs H Q E → vs.length = ps.length := fun vs H Q E ⟨M, as, a, _, _, q⟩ => by
    unfold mkFn at q
    by_cases c : as.length = ps.length
    · rw [← a.len]; exact c
    · rw [if_neg c] at q; exact q.elim
  refine F.okX S len (fun cdv Ar outer s H vs Q E hr hsp => ?_)
  have hl := len _ _ _ _ hsp
  obtain ⟨M, as, a, l, t, q⟩ := hsp
  have ca : as.length = ps.length := a.len.trans hl
  refine ⟨_, h ⟨M, H, ioList as (vs.map some)⟩ E cdv Ar outer s H hr, ?_⟩
  have hpl : ps.length ≤ N.length := by have := congrArg List.length S.pre; rw [List.length_take] at this; omega
  -- the slots at the entry
  have est : L2.start N vs = vs.map some ++ List.replicate (N.length - ps.length) none := by unfold L2.start; rw [hl]
  have gs : ∀ {i : Nat} {w : W}, (as ++ List.replicate (N.length - ps.length) W.un)[i]? = some w → w ≠ .un → as[i]? = some w ∧ i < vs.length := fun {i w} e n => by
    by_cases c : i < as.length
    · rw [List.getElem?_append_left c] at e
      exact ⟨e, by rw [← a.len]; exact c⟩
    · rw [List.getElem?_append_right (by omega), List.getElem?_replicate] at e
      split at e
      · cases e; exact absurd rfl n
      · cases e
  have gv : ∀ {i : Nat} {v : V}, vs[i]? = some v → (L2.start N vs)[i]? = some (some v) := fun {i v} e => by
    have c := (List.getElem?_eq_some_iff.mp e).1
    rw [est, List.getElem?_append_left (by rw [List.length_map]; exact c), List.getElem?_map, e]; rfl
  have gi : ∀ {i : Nat} {p : Addr}, i < vs.length → (L2.start N vs)[i]? = some (some (.ref p)) → vs[i]? = some (.ref p) := fun {i p} c e => by
    rw [est, List.getElem?_append_left (by rw [List.length_map]; exact c), List.getElem?_map] at e
    cases q : vs[i]? with
    | none => rw [q] at e; cases e
    | some u => rw [q] at e; cases e; rfl
  have lm : as.length = (vs.map some).length := by rw [List.length_map]; exact a.len
  have mio : ∀ {i : Nat} {p : Addr}, (i, p) ∈ ioList as (vs.map some) ↔ (∃ b c, as[i]? = some (.own b c)) ∧ vs[i]? = some (.ref p) := fun {i p} => by
    rw [mem_ioList lm, List.getElem?_map]
    constructor
    · rintro ⟨h1, h2⟩
      cases q : vs[i]? with
      | none => rw [q] at h2; cases h2
      | some u => rw [q] at h2; cases h2; exact ⟨h1, rfl⟩
    · rintro ⟨h1, h2⟩
      exact ⟨h1, by rw [h2]; rfl⟩
  have S0 : StR K G ⟨M, H, ioList as (vs.map some)⟩ M (as ++ List.replicate (N.length - ps.length) .un) (L2.start N vs) H := by
    refine ⟨⟨l, l, Step.refl M H, fun b u m _ e _ => ⟨m, e⟩, t⟩, ?_, fun i x e => ?_, fun i ns e => ?_, fun i b c e => ?_, fun i j p b c b' c' hij e1 e2 e3 e4 => ?_, fun p hp => ?_⟩
    · rw [est, List.length_append, List.length_append, List.length_replicate, List.length_replicate, List.length_map, a.len]
    · obtain ⟨h1, h2⟩ := gs e (fun z => nomatch z)
      obtain ⟨v, h3, h4⟩ := a.val i x h1
      exact ⟨v, gv h3, h4⟩
    · obtain ⟨h1, h2⟩ := gs e (fun z => nomatch z)
      obtain ⟨v, h3, h4⟩ := a.scr i ns h1
      exact ⟨v, gv h3, h4⟩
    · obtain ⟨h1, h2⟩ := gs e (fun z => nomatch z)
      obtain ⟨rfl, p, h3, h4, h5⟩ := a.own i b c h1
      have hm : (i, p) ∈ ioList as (vs.map some) := mio.mpr ⟨⟨_, _, h1⟩, h3⟩
      exact ⟨p, gv h3, h4, h5, fun _ => ⟨i, hm⟩, fun _ => hm⟩
    · obtain ⟨h1, h2⟩ := gs e1 (fun z => nomatch z)
      obtain ⟨h3, h4⟩ := gs e2 (fun z => nomatch z)
      exact a.apart i j p b c b' c' hij h1 h3 (gi h2 e3) (gi h4 e4)
    · obtain ⟨i, p⟩ := p
      obtain ⟨⟨b, c, h1⟩, h2⟩ := mio.mp hp
      obtain ⟨rfl, _⟩ := a.own i b c h1
      exact ⟨c, by rw [List.getElem?_append_left (List.getElem?_eq_some_iff.mp h1).1]; exact h1, gv h2⟩
  refine ⟨M, _, S0, ?_⟩
  have rest : ∀ {M' H'}, Out K G ⟨M, H, ioList as (vs.map some)⟩ M' H' → Rest as vs M H M' H' := fun {M' H'} o b u m no e f => o.oth b u m (fun ⟨i, hi⟩ => by
    obtain ⟨⟨b', c', h1⟩, h2⟩ := mio.mp hi
    exact no i b' c' h1 h2) e f
  have fin : ∀ {M' H' sl' σ'}, Step M H M' H' → StR K G ⟨M, H, ioList as (vs.map some)⟩ M' sl' σ' H' → Fin K G as vs M H (sl'.take ps.length) M' H' := fun {M' H' sl' σ'} s S' => by
    refine ⟨s, S'.out.live, S'.out.tabs, rest S'.out, fun i b c p h1 h2 => ?_⟩
    obtain ⟨c', q1, q2⟩ := S'.io (i, p) (mio.mpr ⟨⟨b, c, h1⟩, h2⟩)
    obtain ⟨p', q3, q4, q5, _⟩ := S'.own i true c' q1
    have q2' : σ'[i]? = some (some (.ref p)) := q2
    rw [q2'] at q3; cases q3
    refine ⟨c', ?_, q4, q5⟩
    rw [List.getElem?_take_of_lt (by rw [← ca]; exact (List.getElem?_eq_some_iff.mp h1).1)]
    exact q1
  unfold mkFn at q
  rw [if_pos ca] at q
  cases e : body (as ++ List.replicate (N.length - ps.length) .un) with
  | nx sl' =>
    rw [e] at q
    exact fun σ' H' M' s S' => q .non H' M' (fin s S') .non
  | rt x sl' =>
    rw [e] at q
    exact fun v σ' H' M' s S' r => q v H' M' (fin s S') r
  | exc x =>
    rw [e] at q
    exact fun cls dd σ' H' M' s o r => q cls dd H' M' s o.live o.tabs (rest o) r
  | bk sl' => rw [e] at q; exact q.elim
  | ct sl' => rw [e] at q; exact q.elim
  | stuck => rw [e] at q; exact q.elim
end
section
variable {X : Cx} {G : Gb} {A : Act} {Wx : WX} {a : Expr} {es : List Expr} {ea : Ex} {ees : Exs} {pos p : Pos} {x : Str} {k : Nat} {f : Addr} {fd : FuncData} {ps : List Str} {fn : Fn}
theorem r_call (F : FnOk X.prog X.w X.K X.mg X.base (L2.CX X.prog X.w) k f fd ps (spOf X.K G fn)) (hr : Room k X.A) (tk : Takes X Wx) (hm : X.mg x = some (.ref f)) (hk : PySem.W.keepIn X.K (.ref f) = true) (hb : Binds X.K fd ps [])
    (ha : PA X (a :: es) (tA X.K G A Wx ees)) (hg : Gl X x := by rfl) (hdb : (x == ("__debug__" : Str)) = false := by decide) (he : starEach (a :: es) X.env = (false, eval a X.env) :: starEach es X.env := by rfl) (hpl : (backTo pos (starEach es X.env)).any (·.1) = false := by rfl) :
    PE X (.Call (.Name x p) (a :: es) [] pos) (tE X.K G A Wx (eCall fn ees)) := by
  refine PE.imp (pe_callS (E := WE Wx) F hr hg hm hk hb (fun σ => passAt tk σ) ha hdb he hpl) fun σ H Q ⟨M, sl, S, h⟩ => tX.bind S h fun M1 xs sl1 vs H1 s1 S1 r1 h1 => ?_
  refine ⟨M1, xs.map .d, args_d r1, S1.out.live, S1.out.tabs, ?_⟩
  have all : ∀ {M' H'}, Rest (xs.map .d) vs M1 H1 M' H' → ∀ a o, M1 a → H1 a = some o → Fx o → M' a ∧ H' a = some o := fun {M' H'} r a o m e f => r a o m (fun i b c z => absurd z noown_d) e f
  cases e : fn (xs.map .d) with
  | ok x outs =>
    rw [e] at h1
    exact fun v H' M' fi r => h1 v H' M' fi.step (S1.called fi.step fi.live fi.tabs (all fi.rest)) r
  | exc x =>
    rw [e] at h1
    refine fun cls dd H' M' s l t r ex => h1 cls dd H' M' s ⟨S1.out.live0, l, S1.out.stp.trans s, fun b u m np e f => ?_, t⟩ ex
    obtain ⟨q1, q2⟩ := S1.out.oth b u m np e f
    exact all r b u q1 q2 f
  | stuck => rw [e] at h1; exact h1.elim
theorem get_cons {α : Type} {x y : α} {r : List α} {i : Nat} (h : (x :: r)[i]? = some y) : (i = 0 ∧ y = x) ∨ ∃ j, i = j + 1 ∧ r[j]? = some y := by
  cases i with
  | zero => exact .inl ⟨rfl, by simpa using h.symm⟩
  | succ j => exact .inr ⟨j, rfl, by simpa using h⟩
/-- f(x, ..), x owned -/
theorem r_callIO (i : Nat) {y : Str} {py : Pos} (F : FnOk X.prog X.w X.K X.mg X.base (L2.CX X.prog X.w) k f fd ps (spOf X.K G fn)) (hr : Room k X.A) (tk : Takes X Wx) (hm : X.mg x = some (.ref f)) (hk : PySem.W.keepIn X.K (.ref f) = true) (hb : Binds X.K fd ps [])
    (hy : PE X (.Name y py) (tVar i)) (ha : PA X es (tA X.K G A Wx ees)) (hg : Gl X x := by rfl) (hdb : (x == ("__debug__" : Str)) = false := by decide) (he : starEach (.Name y py :: es) X.env = (false, eval (.Name y py) X.env) :: starEach es X.env := by rfl) (hpl : (backTo pos (starEach es X.env)).any (·.1) = false := by rfl) :
    PE X (.Call (.Name x p) (.Name y py :: es) [] pos) (tE X.K G A Wx (eCallIO fn i ees)) := by
  refine PE.imp (pe_callS (E := WE Wx) F hr hg hm hk hb (fun σ => passAt tk σ) (pa_cons hy ha he) hdb he hpl) fun σ H Q ⟨M, sl, S, h⟩ => ?_
  unfold eCallIO at h
  by_cases c : isOL sl i = true
  case neg => rw [if_neg c] at h; exact h.elim
  rw [if_pos c] at h
  obtain ⟨b, ls, e⟩ := isOL_at c
  obtain ⟨q, us, e1, _⟩ := S.ownL e
  refine ⟨_, e1, tX.bind S h fun M1 xs sl1 vs H1 s1 S1 r1 h1 => ?_⟩
  cases e3 : nth sl1 i with
  | own b cc =>
    rw [e3] at h1
    obtain ⟨q', f1, f2, f3, f4, f5⟩ := S1.own i b cc (nth_own e3)
    rw [e1] at f1; cases f1
    have AR : ArgsR X.K M1 H1 (.own true cc :: xs.map .d) (.ref q :: vs) := by
      have ad := args_d r1
      refine ⟨by rw [List.length_cons, List.length_cons, ad.len], fun j x e => ?_, fun j ns e => ?_, fun j b' c' e => ?_, fun j l a b1 c1 b2 c2 hjl e4 e5 => ?_⟩
      · rcases get_cons e with ⟨_, z⟩ | ⟨j', rfl, z⟩
        · cases z
        · exact ad.val j' x z
      · rcases get_cons e with ⟨_, z⟩ | ⟨j', rfl, z⟩
        · cases z
        · exact ad.scr j' ns z
      · rcases get_cons e with ⟨rfl, z⟩ | ⟨j', rfl, z⟩
        · cases z
          exact ⟨rfl, q, rfl, f2, f3⟩
        · exact absurd z noown_d
      · rcases get_cons e4 with ⟨rfl, z⟩ | ⟨j', rfl, z⟩
        · rcases get_cons e5 with ⟨rfl, z'⟩ | ⟨l', rfl, z'⟩
          · exact absurd rfl hjl
          · exact absurd z' noown_d
        · exact absurd z noown_d
    refine ⟨M1, .own true cc :: xs.map .d, AR, S1.out.live, S1.out.tabs, ?_⟩
    have h2 : Post X.K G A Wx (DR X.K) M1 H1 σ (match fn (.own true cc :: xs.map .d) with
      | .ok x (.own true c' :: _) => .ok x (sl1.set i (.own b c'))
      | _ => .stuck) Q := h1
    cases ef : fn (.own true cc :: xs.map .d) with
    | ok x outs =>
      rw [ef] at h2
      intro v H' M' fi r
      obtain ⟨c', g1, g2, g3⟩ := fi.outs 0 true cc q rfl rfl
      cases outs with
      | nil => cases g1
      | cons o0 outs =>
        have g1' : o0 = .own true c' := by simpa using g1
        subst g1'
        have h3 : Post X.K G A Wx (DR X.K) M1 H1 σ (.ok x (sl1.set i (.own b c'))) Q := h2
        refine h3 v H' M' fi.step ?_ r
        have rs : ∀ a o, M1 a → a ≠ q → H1 a = some o → Fx o → M' a ∧ H' a = some o := fun a o m ne e f => fi.rest a o m (fun j b0 c0 z => by
          rcases get_cons z with ⟨rfl, _⟩ | ⟨j', rfl, z'⟩
          · intro z; cases z; exact ne rfl
          · exact absurd z' noown_d) e f
        have hi := nth_own e3
        refine ⟨⟨S1.out.live0, fi.live, S1.out.stp.trans fi.step, fun a u m np e f => ?_, fi.tabs⟩, by rw [List.length_set]; exact S1.len, fun j x e => ?_, fun j ns e => ?_, fun j b' c1 e => ?_, fun j l a b1 c1 b2 c2 hjl e4 e5 => ?_, fun p hp => ?_⟩
        · obtain ⟨q1, q2⟩ := S1.out.oth a u m np e f
          exact rs a u q1 (fun z => np (by rw [z] at m ⊢; exact f4 m)) q2 f
        · rcases get_set e with ⟨rfl, z⟩ | ⟨_, z⟩
          · cases z
          · obtain ⟨v, q1, q2⟩ := S1.val j x z
            exact ⟨v, q1, q2.step fi.step⟩
        · rcases get_set e with ⟨rfl, z⟩ | ⟨_, z⟩
          · cases z
          · obtain ⟨v, q1, q2⟩ := S1.scr j ns z
            exact ⟨v, q1, fi.step.scr q2⟩
        · rcases get_set e with ⟨rfl, z⟩ | ⟨hne, z⟩
          · cases z
            exact ⟨q, e1, g2, g3, f4, f5⟩
          · obtain ⟨a', q1, q2, q3, q4, q5⟩ := S1.own j b' c1 z
            have hne' : a' ≠ q := fun z' => by
              subst z'
              exact S1.apart j i _ _ _ _ _ hne z hi q1 e1
            exact ⟨a', q1, q2.step fi.step fun u e' f' => (rs a' u q3 hne' e' f').2, (by obtain ⟨o, e', f'⟩ := q2.there; exact (rs a' o q3 hne' e' f').1), q4, q5⟩
        · rcases get_set e4 with ⟨rfl, z⟩ | ⟨n1, z1⟩
          · rcases get_set e5 with ⟨rfl, z'⟩ | ⟨n2, z2⟩
            · exact absurd rfl hjl
            · exact S1.apart j l a _ _ _ _ hjl hi z2
          · rcases get_set e5 with ⟨rfl, z'⟩ | ⟨n2, z2⟩
            · exact S1.apart j l a _ _ _ _ hjl z1 hi
            · exact S1.apart j l a _ _ _ _ hjl z1 z2
        · obtain ⟨c1, q1, q2⟩ := S1.io p hp
          by_cases hne : p.1 = i
          · rw [hne] at q1 ⊢
            rw [hi] at q1
            cases q1
            refine ⟨c', ?_, by rw [← hne]; exact q2⟩
            exact List.getElem?_set_self (List.getElem?_eq_some_iff.mp hi).1
          · exact ⟨c1, by rw [List.getElem?_set_ne (Ne.symm hne)]; exact q1, q2⟩
    | exc x => rw [ef] at h2; exact h2.elim
    | stuck => rw [ef] at h2; exact h2.elim
  | _ => rw [e3] at h1; exact h1.elim
/-- f(script, ..) -/
theorem r_callS (i : Nat) {y : Str} {py : Pos} (F : FnOk X.prog X.w X.K X.mg X.base (L2.CX X.prog X.w) k f fd ps (spOf X.K G fn)) (hr : Room k X.A) (tk : Takes X Wx) (hm : X.mg x = some (.ref f)) (hk : PySem.W.keepIn X.K (.ref f) = true) (hb : Binds X.K fd ps [])
    (hy : PE X (.Name y py) (tVar i)) (ha : PA X es (tA X.K G A Wx ees)) (hg : Gl X x := by rfl) (hdb : (x == ("__debug__" : Str)) = false := by decide) (he : starEach (.Name y py :: es) X.env = (false, eval (.Name y py) X.env) :: starEach es X.env := by rfl) (hpl : (backTo pos (starEach es X.env)).any (·.1) = false := by rfl) :
    PE X (.Call (.Name x p) (.Name y py :: es) [] pos) (tE X.K G A Wx (eCallS fn i ees)) := by
  refine PE.imp (pe_callS (E := WE Wx) F hr hg hm hk hb (fun σ => passAt tk σ) (pa_cons hy ha he) hdb he hpl) fun σ H Q ⟨M, sl, S, h⟩ => ?_
  unfold eCallS at h
  by_cases c : isScr sl i = true
  case neg => rw [if_neg c] at h; exact h.elim
  rw [if_pos c] at h
  obtain ⟨ns, e⟩ := isScr_at c
  obtain ⟨q, e1, _⟩ := S.scr i ns (nth_scr e)
  refine ⟨_, e1, tX.bind S h fun M1 xs sl1 vs H1 s1 S1 r1 h1 => ?_⟩
  cases e3 : nth sl1 i with
  | scr ns =>
    rw [e3] at h1
    obtain ⟨q', f1, f2⟩ := S1.scr i ns (nth_scr e3)
    rw [e1] at f1; cases f1
    have AR : ArgsR X.K M1 H1 (.scr ns :: xs.map .d) (.ref q :: vs) := by
      have ad := args_d r1
      refine ⟨by rw [List.length_cons, List.length_cons, ad.len], fun j x e => ?_, fun j ns' e => ?_, fun j b' c' e => ?_, fun j l a b1 c1 b2 c2 hjl e4 e5 => ?_⟩
      · rcases get_cons e with ⟨_, z⟩ | ⟨j', rfl, z⟩
        · cases z
        · exact ad.val j' x z
      · rcases get_cons e with ⟨rfl, z⟩ | ⟨j', rfl, z⟩
        · cases z
          exact ⟨q, rfl, f2⟩
        · exact ad.scr j' ns' z
      · rcases get_cons e with ⟨rfl, z⟩ | ⟨j', rfl, z⟩
        · cases z
        · exact absurd z noown_d
      · rcases get_cons e4 with ⟨rfl, z⟩ | ⟨j', rfl, z⟩
        · cases z
        · exact absurd z noown_d
    refine ⟨M1, .scr ns :: xs.map .d, AR, S1.out.live, S1.out.tabs, ?_⟩
    have all : ∀ {M' H'}, Rest (.scr ns :: xs.map .d) (.ref q :: vs) M1 H1 M' H' → ∀ a o, M1 a → H1 a = some o → Fx o → M' a ∧ H' a = some o := fun {M' H'} r a o m e f => r a o m (fun i b c z => by
      rcases get_cons z with ⟨_, z'⟩ | ⟨j', rfl, z'⟩
      · cases z'
      · exact absurd z' noown_d) e f
    have h2 : Post X.K G A Wx (DR X.K) M1 H1 σ (match fn (.scr ns :: xs.map .d) with
      | .ok x _ => .ok x sl1
      | .exc x => .exc x
      | .stuck => .stuck) Q := h1
    cases e : fn (.scr ns :: xs.map .d) with
    | ok x outs =>
      rw [e] at h2
      exact fun v H' M' fi r => h2 v H' M' fi.step (S1.called fi.step fi.live fi.tabs (all fi.rest)) r
    | exc x =>
      rw [e] at h2
      refine fun cls dd H' M' s l t r ex => h2 cls dd H' M' s ⟨S1.out.live0, l, S1.out.stp.trans s, fun b u m np e f => ?_, t⟩ ex
      obtain ⟨q1, q2⟩ := S1.out.oth b u m np e f
      exact all r b u q1 q2 f
    | stuck => rw [e] at h2; exact h2.elim
  | _ => rw [e3] at h1; exact h1.elim
/-- raise C('..'), C a class of one's own without __init__ -/
theorem s_raise (c : Nat) {C : Addr} {bmB : List Value} {B newId initId : String} {m : Str} {j : Nat} {p2 pos2 : Pos} (hC : G.CA c = C) (F : ExcBaseFacts B newId initId bmB) (q : PySem.W.excIn X.K C bmB newId = true) (gC : X.mg x = some (.ref C)) (kC : PySem.W.keepIn X.K (.ref C) = true) (r : Raises X (.ref C)) (tk : Takes X Wx) (hc : X.calm = true) (hg : Gl X x := by rfl)
    (hdb : (x == ("__debug__" : Str)) = false := by decide) : PS X (.Raise (some (.Call (.Name x p) [.Constant (.str m) j p2] [] pos)) none pos2) (tS X.K G A Wx (sRaise c)) :=
  PS.imp (ps_raise hc tk (pmk_own F q gC kC r hg hdb)) fun E σ H ⟨M, sl, S, h⟩ => h _ none σ H M (Step.refl M H) S.out ⟨by rw [hC], trivial⟩
end
end DE
namespace DE
open PySem PySem.Spec PyProof.Rows L2

/-! ### defs that return a new list, owned by the caller -/
/-- a new list: owned, nobody else's -/
def NewR (K : PySem.W.Frag) (M : Addr → Prop) (M' : Addr → Prop) (H' : Hp) (x : D) (v : V) : Prop := ∃ a, v = .ref a ∧ MR K M' H' x a ∧ M' a ∧ ¬ M a
def mkFnN (np n : Nat) (body : Sx) : Fn := fun as => if as.length = np then (match body (as ++ List.replicate (n - np) .un) with
  | .rt x sl => .ok x (sl.take np)
  | _ => .stuck) else .stuck
def spOfN (K : PySem.W.Frag) (G : Gb) (fn : Fn) : Sp := fun vs H Q E => ∃ M as, ArgsR K M H as vs ∧ Live M H ∧ LamX.Tabs G.T H ∧ match fn as with
  | .ok x outs => ∀ v H' M', Fin K G as vs M H outs M' H' → NewR K M M' H' x v → Q v H'
  | _ => False
def PostSN (K : PySem.W.Frag) (G : Gb) (A : Act) (Wx : WX) (M : Addr → Prop) (H : Hp) (r : RS) (E : Ends) : Prop := match r with
  | .rt x sl' => ∀ v σ' H' M', Step M H M' H' → StR K G A M' sl' σ' H' → NewR K A.M0 M' H' x v → E.rt v H'
  | _ => False
def tSN (K : PySem.W.Frag) (G : Gb) (A : Act) (Wx : WX) (s : Sx) : TS := fun E σ H => ∃ M sl, StR K G A M sl σ H ∧ PostSN K G A Wx M H (s sl) E
theorem PostSN.step {K : PySem.W.Frag} {G : Gb} {A : Act} {Wx : WX} {M M1 : Addr → Prop} {H H1 : Hp} {r : RS} {E : Ends} (s : Step M H M1 H1) (p : PostSN K G A Wx M H r E) : PostSN K G A Wx M1 H1 r E := by
  cases r with
  | rt x sl' => exact fun v σ' H' M' t S q => p v σ' H' M' (s.trans t) S q
  | nx sl' => exact p
  | bk sl' => exact p
  | ct sl' => exact p
  | exc x => exact p
  | stuck => exact p
def sSeqN (a b : Sx) : Sx := fun sl => match a sl with
  | .nx sl => b sl
  | _ => .stuck
section
variable {P : Program} {w : World} {K : PySem.W.Frag} {mg : Str → Option Value} {base : Heap} {G : Gb}
/-- a def that returns a new list: its caller owns it -/
theorem fn_okN {x : Str} {st : Stmt} {f : Addr} {fd : FuncData} {N ps : List Str} {k : Nat} {body : Sx} (F : Fun K x x st f fd) (S : FnScope N ps (defScope st))
    (h : ∀ (A : Act) (E : XK) (cdv : Value) (Ar : Around) (outer : List Env) (s : Shared) (H : Hp), Room k (Ar.deeper (envOfC x (defScope st) s.heap.objs.size f cdv)) →
      PSs (cxOf (L2.CX P w) P w K mg base N x (defScope st) f cdv Ar outer s H E) (defBody st) (tSN K G A (fun cls d _ H => E cls d H) body)) : FnOk P w K mg base (L2.CX P w) (k + 1) f fd ps (spOfN K G (mkFnN ps.length N.length body)) := by
  have len : ∀ vs H Q E, spOfN K G (mkFnN ps.length N.length body) vs H Q E → vs.length = ps.length := fun vs H Q E ⟨M, as, a, _, _, q⟩ => by
    unfold mkFnN at q
    by_cases c : as.length = ps.length
    · rw [← a.len]; exact c
    · rw [if_neg c] at q; exact q.elim
  refine F.okX S len (fun cdv Ar outer s H vs Q E hr hsp => ?_)
  have hl := len _ _ _ _ hsp
  obtain ⟨M, as, a, l, t, q⟩ := hsp
  have ca : as.length = ps.length := a.len.trans hl
  refine ⟨_, h ⟨M, H, ioList as (vs.map some)⟩ E cdv Ar outer s H hr, ?_⟩
  have hpl : ps.length ≤ N.length := by have := congrArg List.length S.pre; rw [List.length_take] at this; omega
  -- the slots at the entry
  have est : L2.start N vs = vs.map some ++ List.replicate (N.length - ps.length) none := by unfold L2.start; rw [hl]
  have gs : ∀ {i : Nat} {w : W}, (as ++ List.replicate (N.length - ps.length) W.un)[i]? = some w → w ≠ .un → as[i]? = some w ∧ i < vs.length := fun {i w} e n => by
    by_cases c : i < as.length
    · rw [List.getElem?_append_left c] at e
      exact ⟨e, by rw [← a.len]; exact c⟩
    · rw [List.getElem?_append_right (by omega), List.getElem?_replicate] at e
      split at e
      · cases e; exact absurd rfl n
      · cases e
  have gv : ∀ {i : Nat} {v : V}, vs[i]? = some v → (L2.start N vs)[i]? = some (some v) := fun {i v} e => by
    have c := (List.getElem?_eq_some_iff.mp e).1
    rw [est, List.getElem?_append_left (by rw [List.length_map]; exact c), List.getElem?_map, e]; rfl
  have gi : ∀ {i : Nat} {p : Addr}, i < vs.length → (L2.start N vs)[i]? = some (some (.ref p)) → vs[i]? = some (.ref p) := fun {i p} c e => by
    rw [est, List.getElem?_append_left (by rw [List.length_map]; exact c), List.getElem?_map] at e
    cases q : vs[i]? with
    | none => rw [q] at e; cases e
    | some u => rw [q] at e; cases e; rfl
  have lm : as.length = (vs.map some).length := by rw [List.length_map]; exact a.len
  have mio : ∀ {i : Nat} {p : Addr}, (i, p) ∈ ioList as (vs.map some) ↔ (∃ b c, as[i]? = some (.own b c)) ∧ vs[i]? = some (.ref p) := fun {i p} => by
    rw [mem_ioList lm, List.getElem?_map]
    constructor
    · rintro ⟨h1, h2⟩
      cases q : vs[i]? with
      | none => rw [q] at h2; cases h2
      | some u => rw [q] at h2; cases h2; exact ⟨h1, rfl⟩
    · rintro ⟨h1, h2⟩
      exact ⟨h1, by rw [h2]; rfl⟩
  have S0 : StR K G ⟨M, H, ioList as (vs.map some)⟩ M (as ++ List.replicate (N.length - ps.length) .un) (L2.start N vs) H := by
    refine ⟨⟨l, l, Step.refl M H, fun b u m _ e _ => ⟨m, e⟩, t⟩, ?_, fun i x e => ?_, fun i ns e => ?_, fun i b c e => ?_, fun i j p b c b' c' hij e1 e2 e3 e4 => ?_, fun p hp => ?_⟩
    · rw [est, List.length_append, List.length_append, List.length_replicate, List.length_replicate, List.length_map, a.len]
    · obtain ⟨h1, h2⟩ := gs e (fun z => nomatch z)
      obtain ⟨v, h3, h4⟩ := a.val i x h1
      exact ⟨v, gv h3, h4⟩
    · obtain ⟨h1, h2⟩ := gs e (fun z => nomatch z)
      obtain ⟨v, h3, h4⟩ := a.scr i ns h1
      exact ⟨v, gv h3, h4⟩
    · obtain ⟨h1, h2⟩ := gs e (fun z => nomatch z)
      obtain ⟨rfl, p, h3, h4, h5⟩ := a.own i b c h1
      have hm : (i, p) ∈ ioList as (vs.map some) := mio.mpr ⟨⟨_, _, h1⟩, h3⟩
      exact ⟨p, gv h3, h4, h5, fun _ => ⟨i, hm⟩, fun _ => hm⟩
    · obtain ⟨h1, h2⟩ := gs e1 (fun z => nomatch z)
      obtain ⟨h3, h4⟩ := gs e2 (fun z => nomatch z)
      exact a.apart i j p b c b' c' hij h1 h3 (gi h2 e3) (gi h4 e4)
    · obtain ⟨i, p⟩ := p
      obtain ⟨⟨b, c, h1⟩, h2⟩ := mio.mp hp
      obtain ⟨rfl, _⟩ := a.own i b c h1
      exact ⟨c, by rw [List.getElem?_append_left (List.getElem?_eq_some_iff.mp h1).1]; exact h1, gv h2⟩
  refine ⟨M, _, S0, ?_⟩
  have rest : ∀ {M' H'}, Out K G ⟨M, H, ioList as (vs.map some)⟩ M' H' → Rest as vs M H M' H' := fun {M' H'} o b u m no e f => o.oth b u m (fun ⟨i, hi⟩ => by
    obtain ⟨⟨b', c', h1⟩, h2⟩ := mio.mp hi
    exact no i b' c' h1 h2) e f
  have fin : ∀ {M' H' sl' σ'}, Step M H M' H' → StR K G ⟨M, H, ioList as (vs.map some)⟩ M' sl' σ' H' → Fin K G as vs M H (sl'.take ps.length) M' H' := fun {M' H' sl' σ'} s S' => by
    refine ⟨s, S'.out.live, S'.out.tabs, rest S'.out, fun i b c p h1 h2 => ?_⟩
    obtain ⟨c', q1, q2⟩ := S'.io (i, p) (mio.mpr ⟨⟨b, c, h1⟩, h2⟩)
    obtain ⟨p', q3, q4, q5, _⟩ := S'.own i true c' q1
    have q2' : σ'[i]? = some (some (.ref p)) := q2
    rw [q2'] at q3; cases q3
    refine ⟨c', ?_, q4, q5⟩
    rw [List.getElem?_take_of_lt (by rw [← ca]; exact (List.getElem?_eq_some_iff.mp h1).1)]
    exact q1
  unfold mkFnN at q
  rw [if_pos ca] at q
  cases e : body (as ++ List.replicate (N.length - ps.length) .un) with
  | rt x sl' =>
    rw [e] at q
    exact fun v σ' H' M' s S' r => q v H' M' (fin s S') r
  | nx sl' => rw [e] at q; exact q.elim
  | exc x => rw [e] at q; exact q.elim
  | bk sl' => rw [e] at q; exact q.elim
  | ct sl' => rw [e] at q; exact q.elim
  | stuck => rw [e] at q; exact q.elim
end
section
variable {X : Cx} {G : Gb} {A : Act} {Wx : WX} {a b : Expr} {es : List Expr} {ea eb : Ex} {ees : Exs} {pos p : Pos} {st : Stmt} {ba : List Stmt} {sa sb : Sx}
theorem qN_one (h : PS X st (tSN X.K G A Wx sa)) : PSs X [st] (tSN X.K G A Wx sa) := pss_one h
theorem qN_cons (h : PS X st (tS X.K G A Wx sa)) (hr : PSs X ba (tSN X.K G A Wx sb)) : PSs X (st :: ba) (tSN X.K G A Wx (sSeqN sa sb)) := by
  refine PSs.imp (pss_cons h hr) fun E σ H ⟨M, sl, S, h⟩ => ⟨M, sl, S, ?_⟩
  have h' : PostSN X.K G A Wx M H (match sa sl with
    | .nx sl => sb sl
    | _ => .stuck) E := h
  cases e : sa sl with
  | nx sl' => rw [e] at h'; exact fun σ' H' M' s S' => ⟨M', sl', S', PostSN.step s h'⟩
  | rt x sl' => rw [e] at h'; exact h'.elim
  | bk sl' => rw [e] at h'; exact h'.elim
  | ct sl' => rw [e] at h'; exact h'.elim
  | exc x => rw [e] at h'; exact h'.elim
  | stuck => rw [e] at h'; exact h'.elim
/-- return [..] -/
def sRetL (es : Exs) : Sx := fun sl => match es sl with
  | .ok xs sl => if xs.length ≤ 16777216 then .rt (.list xs) sl else .stuck
  | _ => .stuck
theorem sN_ret {p2 : Pos} (ha : PA X es (tA X.K G A Wx ees)) : PS X (.Return (some (.List es p2)) pos) (tSN X.K G A Wx (sRetL ees)) := by
  refine PS.imp (ps_ret (pe_lst ha)) fun E σ H ⟨M, sl, S, h⟩ => ⟨M, sl, S, ?_⟩
  have h' : PostSN X.K G A Wx M H (match ees sl with
    | .ok xs sl => if xs.length ≤ 16777216 then .rt (.list xs) sl else .stuck
    | _ => .stuck) E := h
  cases e : ees sl with
  | ok xs sl' =>
    rw [e] at h'
    intro vs H1 M1 s1 S1 r1
    have h2 : PostSN X.K G A Wx M H (if xs.length ≤ 16777216 then .rt (.list xs) sl' else .stuck) E := h'
    by_cases c : xs.length ≤ 16777216
    · rw [if_pos c] at h2
      refine ⟨by rw [← r1.length, sizeLine_eq]; exact c, fun p hp => ?_⟩
      obtain ⟨M2, s2, S2, m2, n2, no, dr⟩ := S1.newOwn (o := .lst vs) hp fx_lst
      have mr : MR X.K M2 (upd H1 p (.lst vs)) (.list xs) p := .inl ⟨xs, vs, rfl, upd_same, r1.step s2⟩
      exact h2 _ σ _ M2 (s1.trans s2) S2 ⟨p, rfl, mr, m2, n2⟩
    · rw [if_neg c] at h2; exact h2.elim
  | exc x => rw [e] at h'; exact h'.elim
  | stuck => rw [e] at h'; exact h'.elim
/-- x = f(script, ..), f's list is x's own -/
def sTakeS (j : Nat) (fn : Fn) (i : Nat) (args : Exs) : Sx := fun sl => if isScr sl i = true then (args sl).bindS fun xs sl => (match nth sl i with
  | .scr ns => (match fn (.scr ns :: xs.map .d) with
    | .ok x _ => if free sl j = true then .nx (sl.set j (.own false x)) else .stuck
    | _ => .stuck)
  | _ => .stuck) else .stuck
theorem s_takeS (j i : Nat) {x y z : Str} {py pz p0 : Pos} {k : Nat} {f : Addr} {fd : FuncData} {ps : List Str} {fn : Fn} (hN : X.N.Nodup) (F : FnOk X.prog X.w X.K X.mg X.base (L2.CX X.prog X.w) k f fd ps (spOfN X.K G fn)) (hr : Room k X.A) (tk : Takes X Wx) (hm : X.mg x = some (.ref f)) (hk : PySem.W.keepIn X.K (.ref f) = true) (hb : Binds X.K fd ps [])
    (hy : PE X (.Name y py) (tVar i)) (ha : PA X es (tA X.K G A Wx ees)) (hj : X.N[j]? = some z := by rfl) (hz : Loc X.env.scope z := by first | exact Or.inl rfl | exact Or.inr rfl) (hg : Gl X x := by rfl) (hdb : (x == ("__debug__" : Str)) = false := by decide)
    (he : starEach (.Name y py :: es) X.env = (false, eval (.Name y py) X.env) :: starEach es X.env := by rfl) (hpl : (backTo p0 (starEach es X.env)).any (·.1) = false := by rfl)
    (hs : swapsWith (.Call (.Name x p) (.Name y py :: es) [] p0) (some (.Name z pz)) pos.line X.env = pure false := by rfl)
    (hf : X.fn z = true ∨ X.env.scope.names.lookup z = some .local := by first | exact .inl rfl | exact .inr rfl) :
    PS X (.Assign [.Name z pz] (.Call (.Name x p) (.Name y py :: es) [] p0) pos) (tS X.K G A Wx (sTakeS j fn i ees)) := by
  refine PS.imp (ps_set hN hj hz (pe_callS (E := WE Wx) F hr hg hm hk hb (fun σ => passAt tk σ) (pa_cons hy ha he) hdb he hpl) hs hf) fun E σ H ⟨M, sl, S, h⟩ => ?_
  unfold sTakeS at h
  by_cases c : isScr sl i = true
  case neg => rw [if_neg c] at h; exact h.elim
  rw [if_pos c] at h
  obtain ⟨ns, e⟩ := isScr_at c
  obtain ⟨q, e1, _⟩ := S.scr i ns (nth_scr e)
  refine ⟨_, e1, tX.bindS S h fun M1 xs sl1 vs H1 s1 S1 r1 h1 => ?_⟩
  cases e3 : nth sl1 i with
  | scr ns =>
    rw [e3] at h1
    obtain ⟨q', f1, f2⟩ := S1.scr i ns (nth_scr e3)
    rw [e1] at f1; cases f1
    have AR : ArgsR X.K M1 H1 (.scr ns :: xs.map .d) (.ref q :: vs) := by
      have ad := args_d r1
      refine ⟨by rw [List.length_cons, List.length_cons, ad.len], fun j x e => ?_, fun j ns' e => ?_, fun j b' c' e => ?_, fun j l a b1 c1 b2 c2 hjl e4 e5 => ?_⟩
      · rcases get_cons e with ⟨_, z⟩ | ⟨j', rfl, z⟩
        · cases z
        · exact ad.val j' x z
      · rcases get_cons e with ⟨rfl, z⟩ | ⟨j', rfl, z⟩
        · cases z
          exact ⟨q, rfl, f2⟩
        · exact ad.scr j' ns' z
      · rcases get_cons e with ⟨rfl, z⟩ | ⟨j', rfl, z⟩
        · cases z
        · exact absurd z noown_d
      · rcases get_cons e4 with ⟨rfl, z⟩ | ⟨j', rfl, z⟩
        · cases z
        · exact absurd z noown_d
    refine ⟨M1, .scr ns :: xs.map .d, AR, S1.out.live, S1.out.tabs, ?_⟩
    have all : ∀ {M' H'}, Rest (.scr ns :: xs.map .d) (.ref q :: vs) M1 H1 M' H' → ∀ a o, M1 a → H1 a = some o → Fx o → M' a ∧ H' a = some o := fun {M' H'} r a o m e f => r a o m (fun i b c z => by
      rcases get_cons z with ⟨_, z'⟩ | ⟨j', rfl, z'⟩
      · cases z'
      · exact absurd z' noown_d) e f
    have h2 : PostS X.K G A Wx M1 H1 (match fn (.scr ns :: xs.map .d) with
      | .ok x _ => if free sl1 j = true then RS.nx (sl1.set j (.own false x)) else .stuck
      | _ => .stuck) E := h1
    cases e : fn (.scr ns :: xs.map .d) with
    | ok x outs =>
      rw [e] at h2
      have h3 : PostS X.K G A Wx M1 H1 (if free sl1 j = true then RS.nx (sl1.set j (.own false x)) else .stuck) E := h2
      by_cases cf : free sl1 j = true
      case neg => rw [if_neg cf] at h3; exact h3.elim
      rw [if_pos cf] at h3
      rintro v H' M' fi ⟨a, rfl, mr, ma, nM⟩
      have S2 := S1.called fi.step fi.live fi.tabs (all fi.rest)
      have n0 : ¬ A.M0 a := fun z => by
        obtain ⟨o, ho, fo⟩ := S1.out.live0 a z
        by_cases hp : A.P a
        · obtain ⟨i', hi'⟩ := hp
          obtain ⟨c', g1, g2⟩ := S1.io _ hi'
          obtain ⟨a', g3, _, g5, _⟩ := S1.own _ _ _ g1
          rw [g2] at g3
          cases g3
          exact nM g5
        · exact nM (S1.out.oth a o z hp ho fo).1
      exact h3 _ H' M' fi.step (S2.storeOwn mr ma n0 (fun j' b c' e' q' => by
        obtain ⟨a', g1, _, g3, _⟩ := S1.own j' b c' e'
        rw [q'] at g1; cases g1
        exact nM g3) (free_ne cf))
    | exc x => rw [e] at h2; exact h2.elim
    | stuck => rw [e] at h2; exact h2.elim
  | _ => rw [e3] at h1; exact h1.elim
/-! ### looks into owned things -/
/-- e in x, x an owned list -/
def fInL (ys : List D) (x : D) : Option Bool := if SeqAt.shaped x = true ∧ SeqAt.shaped (.list ys) = true then some (ys.any fun z => PyData.eqv z x) else none
def eInO (neg : Bool) (i : Nat) (e : Ex) : Ex := fun sl => (e sl).bind fun x sl => match nth sl i with
  | .own _ (.list ys) => optR ((fInL ys x).map fun k => .bool (if neg = true then !k else k)) sl
  | _ => .stuck
theorem fInL_some {ys : List D} {x : D} {k : Bool} (h : fInL ys x = some k) : SeqAt.shaped x = true ∧ SeqAt.shaped (.list ys) = true ∧ k = ys.any fun z => PyData.eqv z x := by
  unfold fInL at h
  split at h
  · rename_i c
    exact ⟨c.1, c.2, (Option.some.inj h).symm⟩
  · cases h
theorem DRs.dpL {K : PySem.W.Frag} {M : Addr → Prop} {H : Hp} {ys : List D} {vs : List V} {a : Addr} (t : H a = some (.lst vs)) (r : DRs K M H ys vs) (c : SeqAt.shaped (.list ys) = true) : Dp K H (.ref a) (.list ys) :=
  .lst (.of t) (r.dp (shaped_lay c))
theorem r_notinO (i : Nat) {x : Str} {p2 : Pos} (hu : X.A.units + 65 < cLine) (ha : PE X a (tE X.K G A Wx ea)) (hx : PE X (.Name x p2) (tVar i)) (hm : behindInMarks .NotIn (.Name x p2) = false := by with_unfolding_all rfl) : PE X (.Compare a [.NotIn] [.Name x p2] pos) (tE X.K G A Wx (eInO true i ea)) := by
  refine PE.imp (pe_cmpR (op_notInD hu) ha hx hm) fun σ H Q ⟨M, sl, S, h⟩ => tX.bind S h fun M1 d sl1 v H1 s1 S1 r1 h1 => ?_
  cases e : nth sl1 i with
  | own b c =>
    rw [e] at h1
    cases c with
    | list ys =>
      obtain ⟨q, vs, e1, e2, e3, _⟩ := S1.ownL e
      have h2 : Post X.K G A Wx (DR X.K) M1 H1 σ (optR ((fInL ys d).map fun k => PyData.bool (if true = true then !k else k)) sl1) Q := h1
      cases e4 : fInL ys d with
      | none => rw [e4] at h2; exact h2.elim
      | some k =>
        rw [e4] at h2
        obtain ⟨c1, c2, rfl⟩ := fInL_some e4
        exact ⟨_, e1, d, ys, r1.dp (shaped_lay c1), e3.dpL e2 c2, c1, c2, Post.done S1 h2 (.bl _)⟩
    | _ => exact h1.elim
  | _ => rw [e] at h1; exact h1.elim
theorem r_inO (i : Nat) {x : Str} {p2 : Pos} (hu : X.A.units + 65 < cLine) (ha : PE X a (tE X.K G A Wx ea)) (hx : PE X (.Name x p2) (tVar i)) (hm : behindInMarks .In (.Name x p2) = false := by with_unfolding_all rfl) : PE X (.Compare a [.In] [.Name x p2] pos) (tE X.K G A Wx (eInO false i ea)) := by
  refine PE.imp (pe_cmpR (op_inD hu) ha hx hm) fun σ H Q ⟨M, sl, S, h⟩ => tX.bind S h fun M1 d sl1 v H1 s1 S1 r1 h1 => ?_
  cases e : nth sl1 i with
  | own b c =>
    rw [e] at h1
    cases c with
    | list ys =>
      obtain ⟨q, vs, e1, e2, e3, _⟩ := S1.ownL e
      have h2 : Post X.K G A Wx (DR X.K) M1 H1 σ (optR ((fInL ys d).map fun k => PyData.bool (if false = true then !k else k)) sl1) Q := h1
      cases e4 : fInL ys d with
      | none => rw [e4] at h2; exact h2.elim
      | some k =>
        rw [e4] at h2
        obtain ⟨c1, c2, rfl⟩ := fInL_some e4
        exact ⟨_, e1, d, ys, r1.dp (shaped_lay c1), e3.dpL e2 c2, c1, c2, Post.done S1 h2 (.bl _)⟩
    | _ => exact h1.elim
  | _ => rw [e] at h1; exact h1.elim
theorem rt_notinO (i : Nat) {x : Str} {p2 : Pos} (hu : X.A.units + 65 < cLine) (ha : PE X a (tE X.K G A Wx ea)) (hx : PE X (.Name x p2) (tVar i)) (hm : behindInMarks .NotIn (.Name x p2) = false := by with_unfolding_all rfl) : PT X (.Compare a [.NotIn] [.Name x p2] pos) (tT X.K G A Wx (tTru (eInO true i ea))) := by
  refine PT.imp (pt_cmpR (op_notInD hu) ha hx hm) fun σ H Q ⟨M, sl, S, h⟩ => ?_
  unfold tTru eInO at h
  cases e0 : ea sl with
  | ok d sl1 =>
    rw [e0] at h
    refine ⟨M, sl, S, ?_⟩
    rw [e0]
    intro v H1 M1 s1 S1 r1
    have h' : Post X.K G A Wx (fun _ _ (x y : Bool) => x = y) M H σ ((match nth sl1 i with
      | .own _ (.list ys) => optR ((fInL ys d).map fun k => PyData.bool (if true = true then !k else k)) sl1
      | _ => .stuck).bind fun x sl => optR (truth x) sl) Q := h
    cases e : nth sl1 i with
    | own b c =>
      rw [e] at h'
      cases c with
      | list ys =>
        obtain ⟨q, vs, e1, e2, e3, _⟩ := S1.ownL e
        have h2 : Post X.K G A Wx (fun _ _ (x y : Bool) => x = y) M H σ ((optR ((fInL ys d).map fun k => PyData.bool (if true = true then !k else k)) sl1).bind fun x sl => optR (truth x) sl) Q := h'
        cases e4 : fInL ys d with
        | none => rw [e4] at h2; exact h2.elim
        | some k =>
          rw [e4] at h2
          obtain ⟨c1, c2, rfl⟩ := fInL_some e4
          exact ⟨_, e1, d, ys, r1.dp (shaped_lay c1), e3.dpL e2 c2, c1, c2, _, rfl, h2 _ H1 M1 s1 S1 rfl⟩
      | _ => exact h'.elim
    | _ => rw [e] at h'; exact h'.elim
  | exc x => rw [e0] at h; exact ⟨M, sl, S, by rw [e0]; exact h⟩
  | stuck => rw [e0] at h; exact h.elim
/-- x.index(e), x an owned list -/
def indexD : List D → D → Option Nat
  | [], _ => none
  | y :: ys, x => if PyData.eqv y x = true then some 0 else (indexD ys x).map (· + 1)
theorem indexD_some : ∀ {ys : List D} {x : D} {j : Nat}, indexD ys x = some j → ∃ z, ys[j]? = some z ∧ PyData.eqv z x = true ∧ ∀ (m : Nat) (z' : D), m < j → ys[m]? = some z' → PyData.eqv z' x = false
  | [], _, _, h => by cases h
  | y :: ys, x, j, h => by
    unfold indexD at h
    by_cases c : PyData.eqv y x = true
    · rw [if_pos c] at h
      cases h
      exact ⟨y, rfl, c, fun m z' hm => absurd hm (Nat.not_lt_zero m)⟩
    · rw [if_neg c] at h
      obtain ⟨i, h1, rfl⟩ := map_some h
      obtain ⟨z, q1, q2, q3⟩ := indexD_some h1
      refine ⟨z, q1, q2, fun m z' hm e => ?_⟩
      cases m with
      | zero =>
        have e' : y = z' := by simpa using e
        subst e'
        cases q : PyData.eqv y x with
        | true => exact absurd q c
        | false => rfl
      | succ m => exact q3 m z' (by omega) (by simpa using e)
def eIdxO (i : Nat) (e : Ex) : Ex := fun sl => if isOL sl i = true then (e sl).bind fun x sl => (match nth sl i with
  | .own _ (.list ys) => if SeqAt.shaped x = true ∧ SeqAt.shaped (.list ys) = true then optR ((indexD ys x).map fun j => .int (j : Nat)) sl else .stuck
  | _ => .stuck) else .stuck
theorem r_indexO (i : Nat) {x : Str} {p2 apos cpos : Pos} (hu : X.A.units + 65 < cLine) (ha : PE X a (tE X.K G A Wx ea)) (hx : PE X (.Name x p2) (tVar i)) (hbase : attributeBase (.Name x p2) "index" X.env (eval (.Name x p2) X.env) = eval (.Name x p2) X.env := by rfl)
    (hfew : ((backTo cpos (starEach (a :: []) X.env)).all (fun x => !x.1) && (backToKw cpos (keywordEach [] X.env)).all (fun x => x.1.isSome)
      && decide ((a :: []).length + ([] : List Keyword).length + (if ([] : List Keyword).isEmpty then 0 else 1) < 30)) = true := by rfl)
    (hline : (apos.endLine == cpos.line) = true := by rfl) (hs : starEach (a :: []) X.env = (false, eval a X.env) :: starEach [] X.env := by rfl) (hplain : (backTo cpos (starEach [] X.env)).any (·.1) = false := by rfl) :
    PE X (.Call (.Attribute (.Name x p2) "index" apos) [a] [] cpos) (tE X.K G A Wx (eIdxO i ea)) := by
  refine PE.imp (pe_bm PySem.F.plainAttrs_list PySem.F.slot_list_index PySem.F.type_list_index (mt_indexD hu) hx (pa_cons ha pa_nil hs) hbase hfew hline hs hplain) fun σ H Q ⟨M, sl, S, h⟩ => ?_
  unfold eIdxO at h
  by_cases c : isOL sl i = true
  case neg => rw [if_neg c] at h; exact h.elim
  rw [if_pos c] at h
  obtain ⟨b, xs, e⟩ := isOL_at c
  obtain ⟨q, vs, e1, e2, _, _⟩ := S.ownL e
  refine ⟨_, e1, .inl ⟨rfl, vs, .of e2⟩, tX.bind S h fun M1 d sl1 v H1 s1 S1 r1 h1 => ?_⟩
  cases e3 : nth sl1 i with
  | own b cc =>
    rw [e3] at h1
    cases cc with
    | list ys =>
      have h2 : Post X.K G A Wx (DR X.K) M1 H1 σ (if SeqAt.shaped d = true ∧ SeqAt.shaped (.list ys) = true then optR ((indexD ys d).map fun j => PyData.int (j : Nat)) sl1 else .stuck) Q := h1
      by_cases c2 : SeqAt.shaped d = true ∧ SeqAt.shaped (.list ys) = true
      · rw [if_pos c2] at h2
        cases e4 : indexD ys d with
        | none => rw [e4] at h2; exact h2.elim
        | some j =>
          rw [e4] at h2
          obtain ⟨q', us, f1, f2, f3, _⟩ := S1.ownL e3
          rw [e1] at f1; cases f1
          obtain ⟨z, g1, g2, g3⟩ := indexD_some e4
          exact ⟨q, v, d, ys, j, z, rfl, rfl, f3.dpL f2 c2.2, r1.dp (shaped_lay c2.1), c2.2, c2.1, g1, g2, g3, Post.done S1 h2 (.int _)⟩
      · rw [if_neg c2] at h2; exact h2.elim
    | _ => exact h1.elim
  | _ => rw [e3] at h1; exact h1.elim
/-- len of an owned dict -/
theorem r_lenOD (i : Nat) {x : Str} {p q : Pos} (hm : X.mg "len" = none) (hx : PE X (.Name x p) (tVar i)) (hg : Gl X "len" := by rfl)
    (he : starEach ((.Name x p) :: []) X.env = (false, eval (.Name x p) X.env) :: starEach [] X.env := by rfl) (hpl : (backTo pos (starEach [] X.env)).any (·.1) = false := by rfl) :
    PE X (.Call (.Name "len" q) [.Name x p] [] pos) (tE X.K G A Wx (eLenOD i)) := by
  refine PE.imp (pe_callB call_lenD hg hm (by decide +kernel) (pa_cons hx pa_nil he) (by decide) (by decide) he hpl) fun σ H Q ⟨M, sl, S, h⟩ => ?_
  unfold eLenOD at h
  cases e : nth sl i with
  | own b xs =>
    rw [e] at h
    cases xs with
    | dict m =>
      obtain ⟨q, e1, mr, _⟩ := S.own i b _ (nth_own e)
      rcases mr with ⟨_, _, z, _⟩ | ⟨ks, xs, vs, z, hl, e3, r⟩
      · cases z
      · cases z
        refine ⟨_, e1, q, ks.zip vs, rfl, e3, ?_⟩
        have el : (ks.zip vs).length = ((ks.map kD).zip xs).length := by
          have := r.length
          simp only [List.length_zip, List.length_map]
          omega
        rw [el]
        exact Post.done S h (.int _)
    | _ => exact h.elim
  | _ => rw [e] at h; exact h.elim
/-! ### reads that change nothing -/
/-- f sl tells the value, the heap stays -/
def tPu (K : PySem.W.Frag) (G : Gb) (A : Act) (f : Sl → Option D) : TE := fun σ H Q => ∃ M sl x, StR K G A M sl σ H ∧ f sl = some x ∧ ∀ v, DR K M H x v → Q v H
def puVar (i : Nat) : Sl → Option D := fun sl => match nth sl i with
  | .d x => some x
  | _ => none
def puIx (f g : Sl → Option D) : Sl → Option D := fun sl => (f sl).bind fun x => (g sl).bind fun y => fIx x y
def puC (x : D) : Sl → Option D := fun _ => some x
theorem pu_var (i : Nat) {x : Str} (hN : X.N[i]? = some x := by rfl) (hv : Vis X.env.scope x := by first | exact Or.inl rfl | exact Or.inr (Or.inl rfl) | exact Or.inr (Or.inr rfl)) (hd : (x == ("__debug__" : Str)) = false := by decide)
    (hcd : (x == ("__classdict__" : Str)) = false := by decide) : PE X (.Name x pos) (tPu X.K G A (puVar i)) := by
  refine PE.imp (pe_var hN hv hd hcd) fun σ H Q ⟨M, sl, x, S, e, h⟩ => ?_
  unfold puVar at e
  cases q : nth sl i with
  | d y =>
    rw [q] at e
    cases e
    obtain ⟨v, e1, r⟩ := S.val i _ (nth_d q)
    exact ⟨v, e1, h v r⟩
  | _ => rw [q] at e; cases e
theorem pu_int {i : Int} {j : Nat} : PE X (.Constant (.int i) j pos) (tPu X.K G A (puC (.int i))) := PE.imp pe_int fun σ H Q ⟨M, sl, x, S, e, h⟩ => by
  cases e
  exact h _ (.int i)
theorem pu_ix {f g : Sl → Option D} (ha : PE X a (tPu X.K G A f)) (hb : PE X b (tPu X.K G A g)) (hs : PlainIx b := by exact fun _ _ => rfl) : PE X (.Subscript a b pos) (tPu X.K G A (puIx f g)) := by
  refine PE.imp (pe_ix ix_A ha hb hs) fun σ H Q ⟨M, sl, z, S, e, h⟩ => ?_
  unfold puIx at e
  cases e1 : f sl with
  | none => rw [e1] at e; cases e
  | some x =>
    rw [e1] at e
    have e' : ((g sl).bind fun y => fIx x y) = some z := e
    cases e2 : g sl with
    | none => rw [e2] at e'; cases e'
    | some y =>
      rw [e2] at e'
      have e3 : fIx x y = some z := e'
      refine ⟨M, sl, x, S, e1, fun v r1 => ⟨M, sl, y, S, e2, fun u r2 => ?_⟩⟩
      unfold fIx at e3
      split at e3
      · cases r1 with
        | lst t n r =>
          obtain ⟨w, h1, h2⟩ := r.atI e3
          exact .inl ⟨_, _, _, w, rfl, r2.int_inv, .of t, h1, h w h2⟩
      · cases r1 with
        | tup t r =>
          obtain ⟨w, h1, h2⟩ := r.atI e3
          exact .inr ⟨_, _, _, w, rfl, r2.int_inv, t.sq, h1, h w h2⟩
      · cases e3
/-- i, j = {}, b -/
def sParD' (i j : Nat) (f : Sl → Option D) : Sx := fun sl => match f sl with
  | some x => if free sl i = true ∧ free (sl.set i (.own false (.dict []))) j = true then .nx ((sl.set i (.own false (.dict []))).set j (.d x)) else .stuck
  | none => .stuck
theorem s_parD (i j : Nat) {x y : Str} {px py pt p2 : Pos} {kt k2 : Nat} {pt2 : Pos} {f : Sl → Option D} (hc : X.calm = true) (hN : X.N.Nodup) (hb : PE X b (tPu X.K G A f)) (hi : X.N[i]? = some x := by rfl) (hj : X.N[j]? = some y := by rfl) (hij : i ≠ j := by decide)
    (hx : X.env.scope.names.lookup x = some .local := by rfl) (hy : X.env.scope.names.lookup y = some .local := by rfl)
    (hw : swappedStores [.Tuple [.Name x px, .Name y py] kt pt] (.Tuple [.Dict [] [] p2, b] k2 pt2) X.env = pure (some [x, y]) := by rfl)
    (hs : swapsWithSole [.Tuple [.Name x px, .Name y py] kt pt] (.Tuple [.Dict [] [] p2, b] k2 pt2) pos.line X.env = pure false := by rfl)
    (he : starEach (.Dict [] [] p2 :: [b]) X.env = (false, eval (.Dict [] [] p2) X.env) :: starEach [b] X.env := by rfl) (he2 : starEach (b :: []) X.env = (false, eval b X.env) :: starEach [] X.env := by rfl) :
    PS X (.Assign [.Tuple [.Name x px, .Name y py] kt pt] (.Tuple [.Dict [] [] p2, b] k2 pt2) pos) (tS X.K G A Wx (sParD' i j f)) := by
  refine PS.imp (ps_par hc hN hi hj hij hx hy (pa_cons pe_dnewK (pa_cons hb pa_nil he2) he) hw hs) fun E σ H ⟨M, sl, S, h⟩ p hp => ?_
  unfold sParD' at h
  cases e : f sl with
  | none => rw [e] at h; exact h.elim
  | some d =>
    rw [e] at h
    have h2 : PostS X.K G A Wx M H (if free sl i = true ∧ free (sl.set i (.own false (.dict []))) j = true then .nx ((sl.set i (.own false (.dict []))).set j (.d d)) else .stuck) E := h
    by_cases c : free sl i = true ∧ free (sl.set i (.own false (.dict []))) j = true
    case neg => rw [if_neg c] at h2; exact h2.elim
    rw [if_pos c] at h2
    obtain ⟨M2, s2, S2, m2, n2, no, dr⟩ := S.newOwn (o := .dK []) hp fx_dK
    have mr : MR X.K M2 (upd H p (.dK [])) (.dict []) p := .inr ⟨[], [], [], rfl, rfl, upd_same, .nil⟩
    exact ⟨M2, sl, d, S2, e, fun v r => ⟨_, _, rfl, h2 _ _ M2 s2 ((S2.storeOwn mr m2 n2 no (free_ne c.1)).store r (free_ne c.2))⟩⟩
end
/-! ### len(set(t)) of ints -/
def dd : List Int → List Int
  | [] => []
  | x :: r => if x ∈ r then dd r else x :: dd r
theorem dd_mem : ∀ {xs : List Int} {k : Int}, k ∈ dd xs ↔ k ∈ xs
  | [], k => Iff.rfl
  | x :: r, k => by
    unfold dd
    by_cases c : x ∈ r
    · rw [if_pos c, dd_mem]
      constructor
      · exact List.mem_cons_of_mem _
      · intro h
        rcases List.mem_cons.mp h with rfl | h
        · exact c
        · exact h
    · rw [if_neg c, List.mem_cons, List.mem_cons, dd_mem]
theorem dd_nodup : ∀ (xs : List Int), (dd xs).Nodup
  | [] => List.nodup_nil
  | x :: r => by
    unfold dd
    by_cases c : x ∈ r
    · rw [if_pos c]; exact dd_nodup r
    · rw [if_neg c]; exact List.nodup_cons.mpr ⟨fun z => c (dd_mem.mp z), dd_nodup r⟩
theorem nodup_le : ∀ {xs ys : List Int}, xs.Nodup → (∀ k ∈ xs, k ∈ ys) → xs.length ≤ ys.length
  | [], _, _, _ => Nat.zero_le _
  | x :: xs, ys, hn, hs => by
    obtain ⟨h1, h2⟩ := List.nodup_cons.mp hn
    have hx : x ∈ ys := hs x List.mem_cons_self
    have := nodup_le (xs := xs) (ys := ys.erase x) h2 (fun k hk => by
      have hne : k ≠ x := fun z => h1 (z ▸ hk)
      exact (List.mem_erase_of_ne hne).mpr (hs k (List.mem_cons_of_mem _ hk)))
    rw [List.length_erase_of_mem hx] at this
    have := List.length_pos_of_mem hx
    rw [List.length_cons]
    omega
theorem nodup_len {xs ys : List Int} (hx : xs.Nodup) (hy : ys.Nodup) (h : ∀ k, k ∈ xs ↔ k ∈ ys) : xs.length = ys.length :=
  Nat.le_antisymm (nodup_le hx fun k hk => (h k).mp hk) (nodup_le hy fun k hk => (h k).mpr hk)
def fLenSet : D → Option D
  | .tuple xs => (intsOf xs).bind fun ns => if ns.length ≤ 1000 then some (.int (dd ns).length) else none
  | _ => none
section
variable {X : Cx} {G : Gb} {A : Act} {Wx : WX} {a : Expr} {ea : Ex} {pos p : Pos}
/-- set(t) of a tuple of ints, as an argument -/
theorem pe_setI {e : Expr} {ta : TA} (hc : X.calm = true) (hg : Gl X "set") (hm : X.mg "set" = none) (ha : PA X [e] ta) (hs : starEach [e] X.env = [(false, eval e X.env)] := by rfl) : PE X (.Call (.Name "set" p) [e] [] pos)
    (fun σ H Q => ta σ H fun vs H1 => ∃ (p0 : Addr) (ns : List Int), vs = [.ref p0] ∧ SqT X.K H1 p0 (ns.map V.int) ∧ ns.length ≤ 1000 ∧ ∀ q S, H1 q = none → Q (.ref q) (upd H1 q (.set S (dd ns).length))) := by
  refine ⟨fun pins s σ H Q I h => ?_⟩
  refine Call_ (ld_blt I hg hm PyProof.Rows.boot_set (PyProof.Rows.callWith_type1 (thn (ha.run pos pins s σ H _ I h) fun us s1 ⟨vs, H1, I1, r1, q1⟩ => ?_) hs rfl))
  obtain ⟨p0, ns, e1, hq, hl, q⟩ := q1
  subst e1
  cases r1 with
  | cons r rr =>
    cases rr
    cases r
    obtain ⟨its, rv, pt, hz⟩ := I1.tuple hq
    have hi : IntsAre its.toArray.toList ns := ints_of_vals rv
    have hd := I1.ok.hd hc
    refine call_set_tupI ns hd (show s1.heap.IsTuple p0 its.toArray from pt) hi (by unfold scanBound; omega) fun h' tk c R1 hcn k => ?_
    have R2 := R1
    obtain ⟨o, es, ep, t, ho, hex, hdt, g, nd, hm2, hb, hf, hn, hr, hl2⟩ := R1
    have ec : c = (dd ns).length := by
      rw [← hn, ← nodup_len nd (dd_nodup ns) (fun k => by rw [dd_mem, ← hm2 k, decide_eq_true_eq]), List.length_map, Array.length_toList]
    subst ec
    exact ⟨.ref s1.heap.objs.size, _, I1.laid k (Nat.le_refl _) (show ObjOk X.prog X.w _ _ _ (.set _ _) from R2.setOf), rfl, q _ _ I1.fresh⟩
theorem call_lenS : CallR X (.builtin "len") (fun xs H Q => ∃ a S n, xs = [V.ref a] ∧ H a = some (.set S n) ∧ Q (.int (n : Nat)) H) := by
  intro pins s σ H xs us Q I r h
  obtain ⟨a, S, n, rfl, ha, q⟩ := h
  obtain ⟨u, rfl, ru⟩ := vals1 r
  cases ru
  have hS : s.heap.SetOf (intKind X.prog X.w) a S n := I.hok a _ ha
  obtain ⟨o, es, ep, t, ho, hex, hd, hel, hm, hb, hf, hn⟩ := hS
  subst hn
  exact call_len_set ho hex hd hf (by unfold scanBound at hb; omega) ⟨.int es.size, H, I.tok _, ⟨_, rfl⟩, q⟩
theorem r_lenSet {p2 p3 : Pos} (hc : X.calm = true) (hm : X.mg "len" = none) (hm2 : X.mg "set" = none) (ha : PE X a (tE X.K G A Wx ea)) (hg : Gl X "len" := by rfl) (hg2 : Gl X "set" := by rfl) (hs : starEach [a] X.env = [(false, eval a X.env)] := by rfl) (hs2 : starEach (a :: []) X.env = (false, eval a X.env) :: starEach [] X.env := by rfl)
    (he : starEach (.Call (.Name "set" p2) [a] [] p3 :: []) X.env = (false, eval (.Call (.Name "set" p2) [a] [] p3) X.env) :: starEach [] X.env := by rfl) (hpl : (backTo pos (starEach [] X.env)).any (·.1) = false := by rfl) :
    PE X (.Call (.Name "len" p) [.Call (.Name "set" p2) [a] [] p3] [] pos) (tE X.K G A Wx (eUn fLenSet ea)) := by
  refine PE.imp (pe_callB call_lenS hg hm (by decide +kernel) (pa_cons (pe_setI hc hg2 hm2 (pa_cons ha pa_nil hs2) hs) pa_nil he) (by decide) (by decide) he hpl) fun σ H Q ⟨M, sl, S, h⟩ => ?_
  show tE X.K G A Wx ea σ H _
  refine tX.bind S h fun M1 x sl1 v H1 s1 S1 r1 h1 => ?_
  cases x with
  | tuple xs =>
    cases r1 with
    | tup t r =>
      have h2 : Post X.K G A Wx (DR X.K) M1 H1 σ (optR ((intsOf xs).bind fun ns => if ns.length ≤ 1000 then some (PyData.int (dd ns).length) else none) sl1) Q := h1
      cases e : intsOf xs with
      | none => rw [e] at h2; exact h2.elim
      | some ns =>
        rw [e] at h2
        have h3 : Post X.K G A Wx (DR X.K) M1 H1 σ (optR (if ns.length ≤ 1000 then some (PyData.int (dd ns).length) else none) sl1) Q := h2
        by_cases c : ns.length ≤ 1000
        · rw [if_pos c] at h3
          rw [intsOf_map e] at r
          rw [r.ints_inv] at t
          refine ⟨_, ns, rfl, t.sq, c, fun q T hq => ⟨q, T, _, rfl, upd_same, h3 _ _ M1 (Step.fresh hq) (S1.fresh hq) (.int _)⟩⟩
        · rw [if_neg c] at h3; exact h3.elim
  | _ => exact h1.elim
end
/-! ### name = [..], owned -/
def sSetLcO (i : Nat) (items : Exs) (vs : List Nat) (g : D → Sl → Option Sl) (tt : Tx) (te : Ex) : Sx := fun sl => (items sl).bindS fun ds sl =>
  if ds.length ≤ 16777216 ∧ vs.all (notOwn sl) = true then (match compLoop vs g tt te ds sl with
    | .ok ys c => if free c i = true then .nx (c.set i (.own false (.list ys))) else .stuck
    | _ => .stuck) else .stuck
section
variable {X : Cx} {G : Gb} {A : Act} {Wx : WX} {elt tg iter : Expr} {ifs : List Expr} {scope : Scope} {own : List (Str × Nat)} {pos : Pos} {ei : Exs} {g : D → Sl → Option Sl} {tt : Tx} {te : Ex}
/-- the same, the new list is the name's own -/
theorem lc_readO (ti : Nat) {vs js : List Nat} (hj : ∀ i ∈ js, i ∈ vs) {σ : L2.St} {H : Hp} {E : Ends} (h : tS X.K G A Wx (sSetLcO ti ei vs g tt te) E σ H) :
    tLc (tI X.K G A Wx ei) (fun v σ H Q => ∃ A2, tG X.K G A2 js g v σ H Q) (fun σ H Q => ∃ A2, tT X.K G A2 W0 tt σ H Q) (fun σ H Q => ∃ A2, tE X.K G A2 W0 te σ H Q) vs σ H (fun v H => E.nx (σ.set ti (some v)) H) := by
  obtain ⟨M, sl, S, h⟩ := h
  refine tX.bindS S h fun M1 ds sl1 J H1 s1 S1 y h1 Dd hD => ?_
  by_cases c : ds.length ≤ 16777216 ∧ vs.all (notOwn sl1) = true
  case neg => rw [if_neg c] at h1; exact h1.elim
  rw [if_pos c] at h1
  have hv : ∀ i ∈ vs, notOwn sl1 i = true := fun i hi => List.all_eq_true.mp c.2 i hi
  obtain ⟨M2, s2, S2, mD, n0, no, dr⟩ := S1.newOwn (o := .lst []) hD fx_lst
  cases ec : compLoop vs g tt te ds sl1 with
  | stuck => rw [ec] at h1; exact h1.elim
  | exc x => rw [ec] at h1; exact h1.elim
  | ok ys cend =>
  rw [ec] at h1
  have h1a : PostS X.K G A Wx M1 H1 (if free cend ti = true then RS.nx (cend.set ti (.own false (.list ys))) else .stuck) E := h1
  by_cases cf : free cend ti = true
  case neg => rw [if_neg cf] at h1a; exact h1a.elim
  rw [if_pos cf] at h1a
  refine ⟨fun i m H => m = ds.length - i ∧ i ≤ ds.length ∧ ∃ M cur acc done rest, Step M1 H1 M H ∧ StR X.K G A M cur σ H ∧ H Dd = some (.lst acc) ∧ DRs X.K M H done acc ∧ M Dd ∧ (∀ (j : Nat) (b : Bool) (c' : DE.D), cur[j]? = some (.own b c') → σ[j]? ≠ some (some (.ref Dd))) ∧
      (∀ i ∈ vs, notOwn cur i = true) ∧ done.length ≤ i ∧ compLoop vs g tt te (ds.drop i) cur = .ok rest cend ∧ done ++ rest = ys,
    ⟨ds.length, by simp, Nat.zero_le _, M2, sl1, [], [], ys, s2, S2, upd_same, .nil, mD, no, hv, Nat.le_refl _, ec, rfl⟩, ?_⟩
  rintro i m H ⟨rfl, hil, M, cur, acc, done, rest, s, S, eD, dD, mD, no, hv, dl, ec, ey⟩
  obtain ⟨yg, ystop⟩ := y M H s S.out.live
  by_cases hlt : i < ds.length
  case neg =>
    have e : i = ds.length := by omega
    subst e
    rw [List.drop_length] at ec
    have e1 : R.ok [] cur = R.ok rest cend := ec
    cases e1
    rw [List.append_nil] at ey
    subst ey
    refine .inl ⟨ystop, ?_⟩
    exact h1a _ H M s (S.storeOwn (.inl ⟨done, acc, rfl, eD, dD⟩) mD n0 no (free_ne cf))
  have ex : ds[i]? = some ds[i] := List.getElem?_eq_getElem hlt
  have ed : ds.drop i = ds[i] :: ds.drop (i + 1) := List.drop_eq_getElem_cons hlt
  rw [ed] at ec
  obtain ⟨go, yl⟩ := yg i _ ex
  refine .inr ⟨go, fun H' => i + 1 ≤ ds.length ∧ ∃ M cur acc done rest, Step M1 H1 M H' ∧ StR X.K G A M cur σ H' ∧ H' Dd = some (.lst acc) ∧ DRs X.K M H' done acc ∧ M Dd ∧ (∀ (j : Nat) (b : Bool) (c' : DE.D), cur[j]? = some (.own b c') → σ[j]? ≠ some (some (.ref Dd))) ∧
      (∀ i ∈ vs, notOwn cur i = true) ∧ done.length ≤ i + 1 ∧ compLoop vs g tt te (ds.drop (i + 1)) cur = .ok rest cend ∧ done ++ rest = ys, fun H' ⟨q1, q2⟩ => ⟨ds.length - (i + 1), by omega, rfl, q1, q2⟩, fun x H' hy => ?_⟩
  obtain ⟨k, drx⟩ := yl x H' hy
  have S' := S.keep k
  have sk : Step M H M H' := fun a u n e _ => ⟨n, k a u e⟩
  have eD' := k _ _ eD
  have dD' := dD.step sk
  have Sw := S'.wipe vs hv
  have Si := Sw.inner
  have ec2 : (match g ds[i] (ioz (wipeS cur vs)) with
    | none => .stuck
    | some s1 => match tt s1 with
      | .ok true s2 => (match te s2 with
        | .ok y s3 => (match compLoop vs g tt te (ds.drop (i + 1)) (backS cur s3) with
          | .ok ys c => .ok (y :: ys) c
          | _ => .stuck)
        | _ => .stuck)
      | .ok false s2 => compLoop vs g tt te (ds.drop (i + 1)) (backS cur s2)
      | _ => .stuck) = R.ok rest cend := ec
  cases eg : g ds[i] (ioz (wipeS cur vs)) with
  | none => rw [eg] at ec2; cases ec2
  | some t1 =>
  rw [eg] at ec2
  refine ⟨_, M, _, ds[i], Si, drx, t1, eg, fun σ2 M3 sb3 s3 S3 => ?_⟩
  have wσ : wipe σ2 vs = wipe σ vs := (wipe_same sb3 hj).trans wipe_wipe
  refine ⟨wσ, _, M3, t1, S3, ?_⟩
  have hs : ∀ (i : Nat) (b : Bool) (c : DE.D), cur[i]? = some (.own b c) → (wipeS cur vs)[i]? = some (.own b c) ∧ (wipe σ vs)[i]? = σ[i]? := fun i b c e => by
    have q : i ∉ vs := fun z => notOwn_ne (hv i z) b c e
    exact ⟨by rw [wipeS_keep q]; exact e, wipe_keep q⟩
  have hr : ∀ (i : Nat) (b : Bool) (c : DE.D), (wipeS cur vs)[i]? = some (.own b c) → cur[i]? = some (.own b c) ∧ (wipe σ vs)[i]? = σ[i]? := fun i b c e => by
    obtain ⟨h1, h2⟩ := wipeS_get e (fun z => nomatch z)
    exact ⟨h1, wipe_keep h2⟩
  have nP : ¬ Act.P ⟨M, H', ioList (wipeS cur vs) (wipe σ vs)⟩ Dd := fun ⟨i, hi⟩ => by
    obtain ⟨⟨b, c, e1⟩, e2⟩ := (mem_ioList Sw.len).mp hi
    obtain ⟨h3, h4⟩ := hr i b c e1
    rw [h4] at e2
    exact no i b c h3 e2
  -- what a part leaves
  have after : ∀ {M4 : Addr → Prop} {s4 : Sl} {H4 : Hp}, Step M3 H' M4 H4 → StR X.K G ⟨M, H', ioList (wipeS cur vs) (wipe σ vs)⟩ M4 s4 σ2 H4 →
      Step M1 H1 M4 H4 ∧ StR X.K G A M4 (backS cur s4) σ H4 ∧ H4 Dd = some (.lst acc) ∧ DRs X.K M4 H4 done acc ∧ M4 Dd := fun {M4 s4 H4} s4 S4 => by
    have sall : Step M H' M4 H4 := s3.trans s4
    obtain ⟨q1, q2⟩ := S4.out.oth Dd _ mD nP eD' fx_lst
    exact ⟨(s.trans sk).trans sall, S'.outer hs Sw.len hr sall S4, q2, dD'.step sall, q1⟩
  have no' : ∀ {s4 : Sl} (j : Nat) (b : Bool) (c' : DE.D), (backS cur s4)[j]? = some (.own b c') → σ[j]? ≠ some (some (.ref Dd)) := fun {s4} j b c' e => by
    obtain ⟨c2, q⟩ := back_own e
    exact no j b c2 q
  have ec5 : (match tt t1 with
      | .ok true s2 => (match te s2 with
        | .ok y s3 => (match compLoop vs g tt te (ds.drop (i + 1)) (backS cur s3) with
          | .ok ys c => .ok (y :: ys) c
          | _ => .stuck)
        | _ => .stuck)
      | .ok false s2 => compLoop vs g tt te (ds.drop (i + 1)) (backS cur s2)
      | _ => .stuck) = R.ok rest cend := ec2
  cases et : tt t1 with
  | stuck => rw [et] at ec5; cases ec5
  | exc x => rw [et] at ec5; cases ec5
  | ok kb t2 =>
  rw [et] at ec5
  intro kv H4 M4 s4 S4 ekv
  subst ekv
  cases kb with
  | false =>
    refine iteF ?_
    obtain ⟨a1, a2, a3, a4, a5⟩ := after s4 S4
    exact ⟨hlt, M4, backS cur t2, acc, done, rest, a1, a2, a3, a4, a5, no', fun i hi => back_notOwn (hv i hi), by omega, ec5, ey⟩
  | true =>
    refine iteT ⟨_, M4, t2, S4, ?_⟩
    have ec3 : (match te t2 with
      | .ok y s3 => (match compLoop vs g tt te (ds.drop (i + 1)) (backS cur s3) with
        | .ok ys c => .ok (y :: ys) c
        | _ => .stuck)
      | _ => .stuck) = R.ok rest cend := ec5
    cases ee : te t2 with
    | stuck => rw [ee] at ec3; cases ec3
    | exc x => rw [ee] at ec3; cases ec3
    | ok yv t3 =>
    rw [ee] at ec3
    intro w H5 M5 s5 S5 r5
    obtain ⟨a1, a2, a3, a4, a5⟩ := after (s4.trans s5) S5
    have ec4 : (match compLoop vs g tt te (ds.drop (i + 1)) (backS cur t3) with
        | .ok ys c => .ok (yv :: ys) c
        | _ => .stuck) = R.ok rest cend := ec3
    cases el : compLoop vs g tt te (ds.drop (i + 1)) (backS cur t3) with
    | stuck => rw [el] at ec4; cases ec4
    | exc x => rw [el] at ec4; cases ec4
    | ok zs c =>
    rw [el] at ec4
    have e5 : R.ok (yv :: zs) c = R.ok rest cend := ec4
    cases e5
    have al : acc.length < sizeLine := by
      rw [line_eq, ← a4.length]
      have := c.1
      omega
    refine ⟨acc, a3, al, hlt, ?_⟩
    obtain ⟨sp, Sp'⟩ := a2.pend (o := .lst (acc ++ [w])) a5 n0 no' a3 fx_lst
    exact ⟨M5, backS cur t3, acc ++ [w], done ++ [yv], zs, a1.trans sp, Sp', upd_same, (a4.append (.cons r5 .nil)).step sp, a5, no', fun i hi => back_notOwn (hv i hi), by rw [List.length_append]; simp only [List.length_cons, List.length_nil]; omega, el, by rw [← ey, List.append_assoc]; rfl⟩
/-- name = [..] on one line, the name a local, owned -/
theorem s_setLcO (i : Nat) {y : Str} {py spos : Pos} (js : List Nat) (hc : X.calm = true) (hN : X.N.Nodup) (hi : PI X tg iter (tI X.K G A Wx ei)) (ok : BlkOk X.N X.env.scope scope own)
    (hg : ∀ (A2 : Act) (s : Shared) (H : Hp) (C : Addr) (cl : List (Str × Addr)) (fp : List Addr), PG (X.blk s H scope (compEnvC scope cl C X.env) fp) tg (tG X.K G A2 js g))
    (ht : ∀ (A2 : Act) (s : Shared) (H : Hp) (C : Addr) (cl : List (Str × Addr)) (fp : List Addr), PTs (X.blk s H scope (compEnvC scope cl C X.env) fp) ifs (tT X.K G A2 W0 tt))
    (he : ∀ (A2 : Act) (s : Shared) (H : Hp) (C : Addr) (cl : List (Str × Addr)) (fp : List Addr), PE (X.blk s H scope (compEnvC scope cl C X.env) fp) elt (tE X.K G A2 W0 te)) (hsw : swapsWith (.ListComp elt [⟨tg, iter, ifs, 0⟩] scope pos) (some (.Name y py)) spos.line X.env = pure true)
    (hy : X.N[i]? = some y := by rfl) (hyl : X.env.scope.names.lookup y = some .local := by rfl) (hj : (js.all fun i => (own.map (·.2)).contains i) = true := by decide) (hs : ∀ x, foldedSetIterable iter X.env x = pure x := by intro _; rfl) :
    PS X (.Assign [.Name y py] (.ListComp elt [⟨tg, iter, ifs, 0⟩] scope pos) spos) (tS X.K G A Wx (sSetLcO i ei (own.map (·.2)) g tt te)) := by
  refine PS.imp (ps_setLc hc hN hy hyl hsw hi ok (fun s H C cl fp => PG.ex fun A2 => hg A2 s H C cl fp) (fun s H C cl fp => PTs.ex fun A2 => ht A2 s H C cl fp) (fun s H C cl fp => PE.ex fun A2 => he A2 s H C cl fp) hs) fun E σ H h => ?_
  exact lc_readO (Wx := Wx) i (fun i hi => by
    have := List.all_eq_true.mp hj i hi
    simpa using this) h
/-- name = [..] on one line, the name a local, owned -/
theorem s_setLcO2 (i : Nat) {y : Str} {py spos : Pos} (js : List Nat) (hc : X.calm = true) (hN : X.N.Nodup) (hi : PI X tg iter (tI X.K G A Wx ei)) (ok : BlkOk X.N X.env.scope scope own)
    (hg : ∀ (A2 : Act) (s : Shared) (H : Hp) (C : Addr) (cl : List (Str × Addr)) (fp : List Addr), PG (X.blk s H scope (compEnvC scope cl C X.env) fp) tg (tG X.K G A2 js g))
    (ht : ∀ (A2 : Act) (s : Shared) (H : Hp) (C : Addr) (cl : List (Str × Addr)) (fp : List Addr), PTs (X.blk s H scope (compEnvC scope cl C X.env) fp) ifs (tT X.K G A2 W0 tt))
    (he : ∀ (A2 : Act) (s : Shared) (H : Hp) (C : Addr) (cl : List (Str × Addr)) (fp : List Addr), PE (X.blk s H scope (compEnvC scope cl C X.env) fp) elt (tE X.K G A2 W0 te)) (hy : X.N[i]? = some y := by rfl) (hyl : Loc X.env.scope y := by first | exact Or.inl rfl | exact Or.inr rfl) (hsw : swapsWith (.ListComp elt [⟨tg, iter, ifs, 0⟩] scope pos) (some (.Name y py)) spos.line X.env = pure false := by rfl) (hfn : X.fn y = true ∨ X.env.scope.names.lookup y = some .local := by first | exact .inl rfl | exact .inr rfl) (hj : (js.all fun i => (own.map (·.2)).contains i) = true := by decide) (hs : ∀ x, foldedSetIterable iter X.env x = pure x := by intro _; rfl) :
    PS X (.Assign [.Name y py] (.ListComp elt [⟨tg, iter, ifs, 0⟩] scope pos) spos) (tS X.K G A Wx (sSetLcO i ei (own.map (·.2)) g tt te)) := by
  refine PS.imp (ps_set hN hy hyl (pe_lc hc hN hi ok (fun s H C cl fp => PG.ex fun A2 => hg A2 s H C cl fp) (fun s H C cl fp => PTs.ex fun A2 => ht A2 s H C cl fp) (fun s H C cl fp => PE.ex fun A2 => he A2 s H C cl fp) hs) hsw hfn) fun E σ H h => ?_
  exact lc_readO (Wx := Wx) i (fun i hi => by
    have := List.all_eq_true.mp hj i hi
    simpa using this) h
end
theorem hu65_of {k : Nat} {A : Around} (r : Room k A) : A.units + 65 < cLine := by have := r.un; omega
end DE
namespace DE
open PySem PySem.Spec PyProof.Rows L2
/-! ### what helps the plain laws -/
theorem lg_lt {x : Int} {n : Nat} (h : x.natAbs < 2 ^ n) (hn : 0 < n) : x.natAbs.log2 < n := by
  by_cases z : x.natAbs = 0
  · rw [z]; simpa using hn
  · exact (Nat.log2_lt z).mpr h
theorem mul_ok {x y : Int} (hx : x.natAbs < 2 ^ 1000) (hy : y.natAbs < 2 ^ 1000) : fMul (.int x) (.int y) = some (.int (x * y)) := by
  have h1 := lg_lt hx (by decide)
  have h2 := lg_lt hy (by decide)
  show (if x.natAbs.log2 + y.natAbs.log2 < 1000000 then some (PyData.int (x * y)) else none) = _
  rw [if_pos (by omega)]
theorem div_ok {x y : Int} (hy : 0 < y) (hb : y < 2 ^ 1000) : fDiv (.int x) (.int y) = some (.int (x / y)) := by
  show (if 0 < y then (if y.natAbs.log2 < 9000 then some (PyData.int (x / y)) else none) else _) = _
  rw [if_pos hy, if_pos (by have := lg_lt (x := y) (n := 1000) (by omega) (by decide); omega)]
theorem mod_ok {x y : Int} (hy : 0 < y) : fMod (.int x) (.int y) = some (.int (x % y)) := by
  show (if 0 < y then some (PyData.int (x % y)) else none) = _
  rw [if_pos hy]
theorem pow_ok {x y : Int} (h : 0 ≤ y ∧ (Builtin.Int.intBits x : Int) * y ≤ 134217728) : fPow (.int x) (.int y) = some (.int (x ^ y.toNat)) := if_pos h
theorem shl_ok {x y : Int} (h : 0 ≤ y ∧ (Builtin.Int.intBits x : Int) + y ≤ 134217728) : fShl (.int x) (.int y) = some (.int (x * 2 ^ y.toNat)) := if_pos h
/-! ### loops -/
theorem sLoop_inv {g : D → Sl → Option Sl} {b : Sx} (P : Nat → Sl → Prop) : ∀ (ds : List D) (k : Nat) (sl : Sl), P k sl →
    (∀ i x sl, ds[i]? = some x → P (k + i) sl → ∃ s1 s2, g x sl = some s1 ∧ (b s1 = .nx s2 ∨ b s1 = .ct s2) ∧ P (k + i + 1) s2) → ∃ s', sLoop ds g b sl = .nx s' ∧ P (k + ds.length) s'
  | [], k, sl, h, _ => ⟨sl, rfl, h⟩
  | x :: r, k, sl, h, st => by
    obtain ⟨s1, s2, e1, e2, h2⟩ := st 0 x sl rfl h
    obtain ⟨s', e3, h3⟩ := sLoop_inv P r (k + 1) s2 h2 fun i y sl q p => by
      obtain ⟨s1, s2, a, b, c⟩ := st (i + 1) y sl (by simpa using q) (by rw [show k + (i + 1) = k + 1 + i by omega]; exact p)
      exact ⟨s1, s2, a, b, by rw [show k + 1 + i + 1 = k + (i + 1) + 1 by omega]; exact c⟩
    refine ⟨s', ?_, by rw [List.length_cons, show k + (r.length + 1) = k + 1 + r.length by omega]; exact h3⟩
    unfold sLoop
    rw [e1]
    rcases e2 with e2 | e2 <;> simp only [e2] <;> exact e3
theorem comp_inv {vs : List Nat} {g : D → Sl → Option Sl} {tt : Tx} {te : Ex} (P : Nat → Sl → Prop) (Q : Nat → D → Prop) : ∀ (ds : List D) (k : Nat) (sl : Sl), P k sl →
    (∀ i x sl, ds[i]? = some x → P (k + i) sl → ∃ s1 s2 y s3, g x (ioz (wipeS sl vs)) = some s1 ∧ tt s1 = .ok true s2 ∧ te s2 = .ok y s3 ∧ Q (k + i) y ∧ P (k + i + 1) (backS sl s3)) →
    ∃ ys s', compLoop vs g tt te ds sl = .ok ys s' ∧ ys.length = ds.length ∧ (∀ i y, ys[i]? = some y → Q (k + i) y) ∧ P (k + ds.length) s'
  | [], k, sl, h, _ => ⟨[], sl, rfl, rfl, fun i y z => by simp at z, h⟩
  | x :: r, k, sl, h, st => by
    obtain ⟨s1, s2, y, s3, e1, e2, e3, q, h2⟩ := st 0 x sl rfl h
    obtain ⟨ys, s', e4, l4, q4, h4⟩ := comp_inv P Q r (k + 1) (backS sl s3) h2 fun i y sl q p => by
      obtain ⟨s1, s2, y, s3, a, b, c, d, e⟩ := st (i + 1) y sl (by simpa using q) (by rw [show k + (i + 1) = k + 1 + i by omega]; exact p)
      exact ⟨s1, s2, y, s3, a, b, c, by rw [show k + 1 + i = k + (i + 1) by omega]; exact d, by rw [show k + 1 + i + 1 = k + (i + 1) + 1 by omega]; exact e⟩
    refine ⟨y :: ys, s', ?_, by rw [List.length_cons, List.length_cons, l4], fun i z hz => ?_, by rw [List.length_cons, show k + (r.length + 1) = k + 1 + r.length by omega]; exact h4⟩
    · unfold compLoop
      simp only [e1, e2, e3, e4]
    · cases i with
      | zero => simp at hz; subst hz; exact q
      | succ i => rw [show k + (i + 1) = k + 1 + i by omega]; exact q4 i z (by simpa using hz)
/-- the parts change nothing: a map -/
theorem comp_map {vs : List Nat} {g : D → Sl → Option Sl} {tt : Tx} {te : Ex} (f : D → D) (sl : Sl) : ∀ (ds : List D),
    (∀ x ∈ ds, ∃ s1 s2 s3, g x (ioz (wipeS sl vs)) = some s1 ∧ tt s1 = .ok true s2 ∧ te s2 = .ok (f x) s3 ∧ backS sl s3 = sl) → compLoop vs g tt te ds sl = .ok (ds.map f) sl
  | [], _ => rfl
  | x :: r, h => by
    obtain ⟨s1, s2, s3, e1, e2, e3, e4⟩ := h x List.mem_cons_self
    have := comp_map f sl r fun y hy => h y (List.mem_cons_of_mem _ hy)
    unfold compLoop
    simp only [e1, e2, e3, e4, this, List.map_cons]
/-- with a test -/
theorem comp_filter {vs : List Nat} {g : D → Sl → Option Sl} {tt : Tx} {te : Ex} (p : D → Bool) (f : D → D) (sl : Sl) : ∀ (ds : List D),
    (∀ x ∈ ds, ∃ s1 s2, g x (ioz (wipeS sl vs)) = some s1 ∧ tt s1 = .ok (p x) s2 ∧ (p x = false → backS sl s2 = sl) ∧ (p x = true → ∃ s3, te s2 = .ok (f x) s3 ∧ backS sl s3 = sl)) → compLoop vs g tt te ds sl = .ok ((ds.filter p).map f) sl
  | [], _ => rfl
  | x :: r, h => by
    obtain ⟨s1, s2, e1, e2, e3, e4⟩ := h x List.mem_cons_self
    have ih := comp_filter p f sl r fun y hy => h y (List.mem_cons_of_mem _ hy)
    unfold compLoop
    cases e : p x with
    | false => simp only [e1, e2, e, e3 e, ih, List.filter_cons_of_neg (by simp [e] : ¬ p x = true)]
    | true =>
      obtain ⟨s3, e5, e6⟩ := e4 e
      simp only [e1, e2, e, e5, e6, ih, List.filter_cons_of_pos e, List.map_cons]
theorem range1_i {e : Ex} {sl sl' : Sl} {n : Int} (h : e sl = .ok (.int n) sl') (hn : -4611686018427387904 ≤ n ∧ n < 4611686018427387904) : eRange1 e sl = .ok (rangeD 0 n.toNat) sl' := by
  unfold eRange1
  rw [h]
  exact if_pos hn
theorem range1_ok {e : Ex} {sl sl' : Sl} {n : Nat} (h : e sl = .ok (.int (n : Nat)) sl') (hn : n ≤ 1000000) : eRange1 e sl = .ok (rangeD 0 n) sl' := by
  have := range1_i h (by omega)
  rw [Int.toNat_natCast] at this
  exact this
theorem range2_i {a b : Ex} {sl sl1 sl2 : Sl} {i j : Int} (h : a sl = .ok (.int i) sl1) (h2 : b sl1 = .ok (.int j) sl2) (hn : -4611686018427387904 ≤ i ∧ i < 4611686018427387904 ∧ -4611686018427387904 ≤ j ∧ j < 4611686018427387904) : eRange2 a b sl = .ok (rangeD i (j - i).toNat) sl2 := by
  unfold eRange2
  rw [h]
  show (b sl1).bind _ = _
  rw [h2]
  exact if_pos hn
theorem range2_ok {a b : Ex} {sl sl1 sl2 : Sl} {i j : Nat} (h : a sl = .ok (.int (i : Nat)) sl1) (h2 : b sl1 = .ok (.int (j : Nat)) sl2) (hi : i ≤ 1000000) (hj : j ≤ 1000000) : eRange2 a b sl = .ok (rangeD i (j - i)) sl2 := by
  have := range2_i h h2 (by omega)
  rw [Int.toNat_sub] at this
  exact this
theorem itemsT_ok {e : Ex} {sl sl' : Sl} {xs : List D} (h : e sl = .ok (.tuple xs) sl') : eItems e sl = .ok xs sl' := by
  unfold eItems; rw [h]
theorem itemsL_ok {e : Ex} {sl sl' : Sl} {xs : List D} (h : e sl = .ok (.list xs) sl') : eItems e sl = .ok xs sl' := by
  unfold eItems; rw [h]
theorem comp_ok {items : Exs} {vs : List Nat} {g : D → Sl → Option Sl} {tt : Tx} {te : Ex} {sl sl1 c : Sl} {ds ys : List D} (h : items sl = .ok ds sl1) (hl : ds.length ≤ 1000000) (hv : vs.all (notOwn sl1) = true) (hc : compLoop vs g tt te ds sl1 = .ok ys c) :
    eComp items vs g tt te sl = .ok (.list ys) c := by
  unfold eComp
  rw [h]
  show (if ds.length ≤ 16777216 ∧ vs.all (notOwn sl1) = true then _ else R.stuck) = _
  rw [if_pos ⟨Nat.le_trans hl (by decide), hv⟩, hc]
theorem for_ok {items : Exs} {g : D → Sl → Option Sl} {b : Sx} {sl sl1 : Sl} {ds : List D} (h : items sl = .ok ds sl1) : sFor items g b sl = sLoop ds g b sl1 := by
  unfold sFor; rw [h]
/-! ### one step at a time -/
theorem mkFn_rt {np n : Nat} {body : Sx} {as sl0 sl : Sl} {x : D} (hl : as.length = np) (h0 : as ++ List.replicate (n - np) .un = sl0) (h : body sl0 = .rt x sl) : mkFn np n body as = .ok x (sl.take np) := by
  unfold mkFn
  rw [if_pos hl, h0, h]
theorem mkFn_nx {np n : Nat} {body : Sx} {as sl0 sl : Sl} (hl : as.length = np) (h0 : as ++ List.replicate (n - np) .un = sl0) (h : body sl0 = .nx sl) : mkFn np n body as = .ok .none (sl.take np) := by
  unfold mkFn
  rw [if_pos hl, h0, h]
theorem sRet_ok {e : Ex} {sl sl1 : Sl} {x : D} (h : e sl = .ok x sl1) : sRet e sl = .rt x sl1 := by unfold sRet; rw [h]
theorem sSet_ok {i : Nat} {e : Ex} {sl sl1 : Sl} {x : D} (h : e sl = .ok x sl1) (hf : free sl1 i = true) : sSet i e sl = .nx (sl1.set i (.d x)) := by unfold sSet; rw [h]; exact if_pos hf
theorem sExpr_ok {e : Ex} {sl sl1 : Sl} {x : D} (h : e sl = .ok x sl1) : sExpr e sl = .nx sl1 := by unfold sExpr; rw [h]
theorem sSeq_nx {a b : Sx} {sl s1 : Sl} (h : a sl = .nx s1) : sSeq a b sl = b s1 := by unfold sSeq; rw [h]
theorem sSeq_rt {a b : Sx} {sl s1 : Sl} {x : D} (h : a sl = .rt x s1) : sSeq a b sl = .rt x s1 := by unfold sSeq; rw [h]
theorem sIf_t {t : Tx} {a b : Sx} {sl s1 : Sl} (h : t sl = .ok true s1) : sIf t a b sl = a s1 := by unfold sIf; rw [h]
theorem sIf_f {t : Tx} {a b : Sx} {sl s1 : Sl} (h : t sl = .ok false s1) : sIf t a b sl = b s1 := by unfold sIf; rw [h]
theorem eIf_t {t : Tx} {a b : Ex} {sl s1 : Sl} (h : t sl = .ok true s1) : eIf t a b sl = a s1 := by unfold eIf; rw [h]
theorem eIf_f {t : Tx} {a b : Ex} {sl s1 : Sl} (h : t sl = .ok false s1) : eIf t a b sl = b s1 := by unfold eIf; rw [h]
theorem eUn_ok {f : D → Option D} {e : Ex} {sl sl1 : Sl} {x y : D} (h : e sl = .ok x sl1) (hf : f x = some y) : eUn f e sl = .ok y sl1 := by unfold eUn; rw [h]; show optR (f x) sl1 = _; rw [hf]
theorem eBin_ok {f : D → D → Option D} {a b : Ex} {sl sl1 sl2 : Sl} {x y z : D} (h : a sl = .ok x sl1) (h2 : b sl1 = .ok y sl2) (hf : f x y = some z) : eBin f a b sl = .ok z sl2 := by
  unfold eBin; rw [h]; show (b sl1).bind _ = _; rw [h2]; show optR (f x y) sl2 = _; rw [hf]
theorem tTru_ok {e : Ex} {sl sl1 : Sl} {x : D} {k : Bool} (h : e sl = .ok x sl1) (hk : truth x = some k) : tTru e sl = .ok k sl1 := by unfold tTru; rw [h]; show optR (truth x) sl1 = _; rw [hk]
theorem tNot_ok {t : Tx} {sl sl1 : Sl} {k : Bool} (h : t sl = .ok k sl1) : tNot' t sl = .ok (!k) sl1 := by unfold tNot'; rw [h]
theorem tAnd_t {a b : Tx} {sl s1 : Sl} (h : a sl = .ok true s1) : tAnd' a b sl = b s1 := by unfold tAnd'; rw [h]
theorem tAnd_f {a b : Tx} {sl s1 : Sl} (h : a sl = .ok false s1) : tAnd' a b sl = .ok false s1 := by unfold tAnd'; rw [h]
theorem tOr_t {a b : Tx} {sl s1 : Sl} (h : a sl = .ok true s1) : tOr' a b sl = .ok true s1 := by unfold tOr'; rw [h]
theorem tOr_f {a b : Tx} {sl s1 : Sl} (h : a sl = .ok false s1) : tOr' a b sl = b s1 := by unfold tOr'; rw [h]
theorem eAnd_t {a b : Ex} {sl s1 : Sl} (h : a sl = .ok (.bool true) s1) : eAnd a b sl = b s1 := by unfold eAnd; rw [h]
theorem eAnd_f {a b : Ex} {sl s1 : Sl} (h : a sl = .ok (.bool false) s1) : eAnd a b sl = .ok (.bool false) s1 := by unfold eAnd; rw [h]
theorem eCons_ok {a : Ex} {r : Exs} {sl sl1 sl2 : Sl} {x : D} {xs : List D} (h : a sl = .ok x sl1) (h2 : r sl1 = .ok xs sl2) : eCons a r sl = .ok (x :: xs) sl2 := by
  unfold eCons; rw [h]; show (r sl1).bind _ = _; rw [h2]
theorem eNil_ok {sl : Sl} : eNil sl = .ok [] sl := rfl
theorem eTup_ok {es : Exs} {sl sl1 : Sl} {xs : List D} (h : es sl = .ok xs sl1) (hl : xs.length ≤ 1000000) : eTup es sl = .ok (.tuple xs) sl1 := by
  unfold eTup; rw [h]; exact if_pos (Nat.le_trans hl (by decide))
theorem eLst_ok {es : Exs} {sl sl1 : Sl} {xs : List D} (h : es sl = .ok xs sl1) (hl : xs.length ≤ 1000000) : eLst es sl = .ok (.list xs) sl1 := by
  unfold eLst; rw [h]; exact if_pos (Nat.le_trans hl (by decide))
theorem eCall_ok {fn : Fn} {args : Exs} {sl sl1 : Sl} {xs : List D} {x : D} {o : Sl} (h : args sl = .ok xs sl1) (hf : fn (xs.map .d) = .ok x o) : eCall fn args sl = .ok x sl1 := by
  unfold eCall; rw [h]
  show (match fn (xs.map .d) with
    | .ok x _ => R.ok x sl1
    | .exc x => .exc x
    | .stuck => .stuck) = _
  rw [hf]
theorem eCallIO_ok {fn : Fn} {i : Nat} {args : Exs} {sl sl1 : Sl} {xs : List D} {b : Bool} {x c c' : D} {o : Sl} (ho : isOL sl i = true) (h : args sl = .ok xs sl1) (hi : nth sl1 i = .own b c) (hf : fn (.own true c :: xs.map .d) = .ok x (.own true c' :: o)) : eCallIO fn i args sl = .ok x (sl1.set i (.own b c')) := by
  unfold eCallIO; rw [if_pos ho, h]
  show (match nth sl1 i with
    | .own b c => (match fn (.own true c :: xs.map .d) with
      | .ok x (.own true c' :: _) => R.ok x (sl1.set i (.own b c'))
      | _ => .stuck)
    | _ => .stuck) = _
  rw [hi]
  show (match fn (.own true c :: xs.map .d) with
      | .ok x (.own true c' :: _) => R.ok x (sl1.set i (.own b c'))
      | _ => .stuck) = _
  rw [hf]
theorem sPar_ok {i j : Nat} {a b : Ex} {sl sl1 sl2 : Sl} {x y : D} (h : a sl = .ok x sl1) (h2 : b sl1 = .ok y sl2) (hf : free sl2 i = true ∧ free (sl2.set i (.d x)) j = true) : sPar i j a b sl = .nx ((sl2.set i (.d x)).set j (.d y)) := by
  unfold sPar; rw [h]; show (b sl1).bindS _ = _; rw [h2]; exact if_pos hf
theorem sParN_ok {i j : Nat} {a : Ex} {sl sl1 : Sl} {x : D} (h : a sl = .ok x sl1) (hf : free sl1 i = true ∧ free (sl1.set i (.d x)) j = true) : sParN i j a sl = .nx ((sl1.set i (.d x)).set j (.own false (.list []))) := by
  unfold sParN; rw [h]; exact if_pos hf
theorem eApp_ok {i : Nat} {e : Ex} {sl sl1 : Sl} {x : D} {b : Bool} {xs : List D} (ho : isOL sl i = true) (h : e sl = .ok x sl1) (hi : nth sl1 i = .own b (.list xs)) (hl : xs.length ≤ 1000000) : eApp i e sl = .ok PyData.none (sl1.set i (.own b (.list (xs ++ [x])))) := by
  unfold eApp; rw [if_pos ho, h]
  show (match nth sl1 i with
    | .own b (.list xs) => if xs.length < 16777216 then R.ok PyData.none (sl1.set i (.own b (.list (xs ++ [x])))) else .stuck
    | _ => .stuck) = _
  rw [hi]
  exact if_pos (Nat.lt_of_le_of_lt hl (by decide))
theorem eExt_ok {i : Nat} {e : Ex} {sl sl1 : Sl} {ys : List D} {b : Bool} {xs : List D} (ho : isOL sl i = true) (h : e sl = .ok (.list ys) sl1) (hi : nth sl1 i = .own b (.list xs)) (hl : xs.length + ys.length ≤ 1000000) : eExt i e sl = .ok PyData.none (sl1.set i (.own b (.list (xs ++ ys)))) := by
  unfold eExt; rw [if_pos ho, h]
  show (match nth sl1 i, PyData.list ys with
    | .own b (.list xs), .list ys => if xs.length + ys.length ≤ 16777216 then R.ok PyData.none (sl1.set i (.own b (.list (xs ++ ys)))) else .stuck
    | _, _ => .stuck) = _
  rw [hi]
  exact if_pos (Nat.le_trans hl (by decide))
theorem eSetd_ok {i : Nat} {k v : Ex} {sl sl1 sl2 : Sl} {x y : D} {n : Key} {b : Bool} {m : List (D × D)} (ho : isOD sl i = true) (h : k sl = .ok x sl1) (h2 : v sl1 = .ok y sl2) (hi : nth sl2 i = .own b (.dict m)) (hk : keyOf x = some n) (hl : m.length ≤ 1000000) :
    eSetd i k v sl = match lookK n m with
      | some z => .ok z sl2
      | none => .ok y (sl2.set i (.own b (.dict (m ++ [(kD n, y)])))) := by
  unfold eSetd; rw [if_pos ho, h]
  show (v sl1).bind _ = _
  rw [h2]
  show (match nth sl2 i, keyOf x with
    | .own b (.dict m), some n => if m.length < 16777216 then (match lookK n m with
      | some z => R.ok z sl2
      | none => .ok y (sl2.set i (.own b (.dict (m ++ [(kD n, y)]))))) else .stuck
    | _, _ => .stuck) = _
  rw [hi, hk]
  exact if_pos (Nat.lt_of_le_of_lt hl (by decide))
theorem gNm_ok {i : Nat} {x : D} {sl : Sl} (h : free sl i = true) : gNm i x sl = some (sl.set i (.d x)) := if_pos h
/-- a slot that holds a datum or nothing -/
def U (w : W) : Prop := w = .un ∨ ∃ x, w = .d x
theorem U.un : U .un := .inl rfl
theorem U.d {x : D} : U (.d x) := .inr ⟨x, rfl⟩
theorem lt_int {i j : Int} : fLt (.int i) (.int j) = some (.bool (decide (i < j))) := rfl
theorem gt_int {i j : Int} : fGt (.int i) (.int j) = some (.bool (decide (j < i))) := rfl
/-! ### lists of data -/
theorem all_map {α : Type} {f : α → D} {P : α → Prop} : ∀ {ys : List D}, (∀ y ∈ ys, ∃ a, P a ∧ y = f a) → ∃ l : List α, ys = l.map f ∧ ∀ a ∈ l, P a
  | [], _ => ⟨[], rfl, fun _ h => nomatch h⟩
  | y :: ys, h => by
    obtain ⟨a, ha, rfl⟩ := h y List.mem_cons_self
    obtain ⟨l, rfl, hl⟩ := all_map fun z hz => h z (List.mem_cons_of_mem _ hz)
    refine ⟨a :: l, rfl, fun b hb => ?_⟩
    rcases List.mem_cons.mp hb with rfl | hb
    · exact ha
    · exact hl b hb
theorem get_all {ys : List D} {P : D → Prop} (h : ∀ (i : Nat) (y : D), ys[i]? = some y → P y) : ∀ y ∈ ys, P y := fun y hy => by
  obtain ⟨i, hi⟩ := List.mem_iff_getElem?.mp hy
  exact h i y hi
theorem eq_int {i j : Int} : fEq (.int i) (.int j) = some (.bool (i == j)) := rfl

theorem intsOf_ints (ns : List Int) : intsOf (ns.map .int) = some ns := by
  induction ns with
  | nil => rfl
  | cons n r ih => simp [intsOf, ih]
theorem boolsOf_bools (ns : List Bool) : boolsOf (ns.map .bool) = some ns := by
  induction ns with
  | nil => rfl
  | cons n r ih => simp [boolsOf, ih]
theorem atI_nat' {α : Type} {xs : List α} {i : Int} (h0 : 0 ≤ i) : atI xs i = xs[i.toNat]? := by
  obtain ⟨n, rfl⟩ := Int.eq_ofNat_of_zero_le h0
  unfold atI ixN
  simp
  by_cases h : n < xs.length
  · simp [h]
  · simp [h]
theorem ix_ok {xs : List D} {i : Nat} {x : D} (h : xs[i]? = some x) : fIx (.tuple xs) (.int (i : Nat)) = some x := by
  show atI xs (i : Int) = _
  rw [atI_nat' (by omega)]
  exact h
theorem ixL_ok {xs : List D} {i : Nat} {x : D} (h : xs[i]? = some x) : fIx (.list xs) (.int (i : Nat)) = some x := by
  show atI xs (i : Int) = _
  rw [atI_nat' (by omega)]
  exact h
/-! ### equal data, flat enough -/
def Sh (k : Nat) (d : D) : Prop := d.canLay0 = true ∧ d.depth ≤ k
theorem Sh.int {k : Nat} {i : Int} : Sh k (.int i) := ⟨by simp [PyData.canLay0], by simp [PyData.depth]⟩
theorem Sh.bool {k : Nat} {i : Bool} : Sh k (.bool i) := ⟨by simp [PyData.canLay0], by simp [PyData.depth]⟩
theorem Sh.none {k : Nat} : Sh k .none := ⟨by simp [PyData.canLay0], by simp [PyData.depth]⟩
theorem Sh.all {k : Nat} : ∀ {xs : List D}, (∀ x ∈ xs, Sh k x) → PyData.canLayAll0 xs = true ∧ PyData.depthAll xs ≤ k
  | [], _ => ⟨by simp [PyData.canLayAll0], by simp [PyData.depthAll]⟩
  | x :: xs, h => by
    have h1 := h x List.mem_cons_self
    have h2 := Sh.all fun y hy => h y (List.mem_cons_of_mem _ hy)
    exact ⟨by simp [PyData.canLayAll0, h1.1, h2.1], by simp only [PyData.depthAll]; exact Nat.max_le.mpr ⟨h1.2, h2.2⟩⟩
theorem Sh.tup {k : Nat} {xs : List D} (h : ∀ x ∈ xs, Sh k x) : Sh (k + 1) (.tuple xs) := by
  have := Sh.all h
  exact ⟨by simp [PyData.canLay0, this.1], by simp only [PyData.depth]; omega⟩
theorem Sh.lst {k : Nat} {xs : List D} (h : ∀ x ∈ xs, Sh k x) : Sh (k + 1) (.list xs) := by
  have := Sh.all h
  exact ⟨by simp [PyData.canLay0, this.1], by simp only [PyData.depth]; omega⟩
theorem Sh.shaped {k : Nat} {d : D} (h : Sh k d) (hk : k ≤ 64) : SeqAt.shaped d = true := by
  unfold SeqAt.shaped
  rw [h.1, decide_eq_true (Nat.le_trans h.2 hk)]
  rfl
mutual
theorem eqv_self : ∀ d : D, d.canLay0 = true → PyData.eqv d d = true
  | .none, _ => by simp [PyData.eqv]
  | .bool b, _ => by simp [PyData.eqv]
  | .int i, _ => by simp [PyData.eqv]
  | .str x, _ => by simp [PyData.eqv]
  | .list xs, h => by
    have := eqvAll_self xs (by simpa [PyData.canLay0] using h)
    simp [PyData.eqv, this]
  | .tuple xs, h => by
    have := eqvAll_self xs (by simpa [PyData.canLay0] using h)
    simp [PyData.eqv, this]
  | .dict m, h => by simp [PyData.canLay0] at h
theorem eqvAll_self : ∀ ds : List D, PyData.canLayAll0 ds = true → PyData.eqvAll ds ds = true
  | [], _ => by simp [PyData.eqvAll]
  | x :: xs, h => by
    have h' : x.canLay0 = true ∧ PyData.canLayAll0 xs = true := by simpa [PyData.canLayAll0] using h
    simp [PyData.eqvAll, eqv_self x h'.1, eqvAll_self xs h'.2]
end
theorem ne_self {k : Nat} {d : D} (h : Sh k d) (hk : k ≤ 64) : fNe d d = some (.bool false) := by
  unfold fNe
  rw [if_pos ⟨h.shaped hk, h.shaped hk⟩, eqv_self d h.1]
  rfl
theorem eq_self' {k : Nat} {d : D} (h : Sh k d) (hk : k ≤ 64) : fEq d d = some (.bool true) := by
  unfold fEq
  rw [if_pos ⟨h.shaped hk, h.shaped hk⟩, eqv_self d h.1]
theorem band_mask (x k : Nat) : fBand (.int x) (.int ((2 ^ k : Nat) - 1)) = some (.int ((x % 2 ^ k : Nat) : Int)) := by
  show some (PyData.int (Builtin.bitAnd (x : Int) (((2 ^ k : Nat) : Int) - 1))) = _
  have e : ((2 ^ k : Nat) : Int) - 1 = ((2 ^ k - 1 : Nat) : Int) := by have := Nat.two_pow_pos k; omega
  rw [e, PySem.W.os_band, Nat.and_two_pow_sub_one_eq_mod]
theorem band_one (x : Nat) : fBand (.int x) (.int 1) = some (.int ((x % 2 : Nat) : Int)) := band_mask x 1
theorem shr_nat (x k : Nat) : fShr (.int x) (.int k) = some (.int ((x / 2 ^ k : Nat) : Int)) := by
  show (if (0 : Int) ≤ (k : Int) then some (PyData.int ((x : Int) / 2 ^ (k : Int).toNat)) else none) = _
  rw [if_pos (by omega), Int.toNat_natCast]
  norm_cast
theorem maxI_nat : ∀ (r : List Nat) (m : Nat), maxI (m : Int) (r.map fun x : Nat => (x : Int)) = ((m :: r).foldr max 0 : Nat)
  | [], m => by simp [maxI]
  | i :: r, m => by
    have e : maxI (m : Int) ((i :: r).map fun x : Nat => (x : Int)) = maxI (if (i : Int) > m then (i : Int) else m) (r.map fun x : Nat => (x : Int)) := rfl
    rw [e]
    by_cases c : (i : Int) > m
    · rw [if_pos c, maxI_nat r i]
      simp only [List.foldr_cons]
      omega
    · rw [if_neg c, maxI_nat r m]
      simp only [List.foldr_cons]
      omega
theorem foldr_max_le : ∀ {r : List Nat} {x : Nat}, x ∈ r → x ≤ r.foldr max 0
  | y :: r, x, h => by
    rcases List.mem_cons.mp h with rfl | h
    · exact Nat.le_max_left _ _
    · exact Nat.le_trans (foldr_max_le h) (Nat.le_max_right _ _)
theorem max_ok {xs : List Nat} (h : xs ≠ []) : fMax (.list (xs.map fun x : Nat => .int (x : Nat))) = some (.int (xs.foldr max 0 : Nat)) := by
  obtain ⟨m, r, rfl⟩ : ∃ m r, xs = m :: r := by
    cases xs with
    | nil => exact absurd rfl h
    | cons m r => exact ⟨m, r, rfl⟩
  have e : intsOf ((m :: r).map fun x : Nat => PyData.int (x : Nat)) = some ((m :: r).map fun x : Nat => (x : Int)) := by
    rw [← intsOf_ints, List.map_map]; rfl
  show (match intsOf ((m :: r).map fun x : Nat => PyData.int (x : Nat)) with
    | some (i :: r) => some (PyData.int (maxI i r))
    | _ => none) = _
  rw [e]
  show some (PyData.int (maxI (m : Int) (r.map fun x : Nat => (x : Int)))) = _
  rw [maxI_nat]
theorem sWhile_t {n : Nat} {t : Tx} {b : Sx} {sl s1 s2 : Sl} (h : t sl = .ok true s1) (h2 : b s1 = .nx s2) : sWhile (n + 1) t b sl = sWhile n t b s2 := by
  show ((t sl).bindS _) = _
  rw [h]
  show (match b s1 with
    | .nx sl' => sWhile n t b sl'
    | .ct sl' => sWhile n t b sl'
    | .bk sl' => .nx sl'
    | .rt x sl' => .rt x sl'
    | .exc x => .exc x
    | .stuck => .stuck) = _
  rw [h2]
theorem sWhile_f {n : Nat} {t : Tx} {b : Sx} {sl s1 : Sl} (h : t sl = .ok false s1) : sWhile (n + 1) t b sl = .nx s1 := by
  show ((t sl).bindS _) = _
  rw [h]
theorem bits_le {x : Int} (h : x.natAbs < 2 ^ 1000) : Builtin.Int.intBits x ≤ 1000 := by
  unfold Builtin.Int.intBits
  split
  · omega
  · have := lg_lt h (by decide)
    omega
theorem shl_small {x : Int} {n : Nat} (h : x.natAbs < 2 ^ 1000) (hn : n ≤ 1000) : fShl (.int x) (.int n) = some (.int (x * (2 ^ n : Nat))) := by
  have := bits_le h
  have e := shl_ok (x := x) (y := n) (by omega)
  rw [Int.toNat_natCast] at e
  rw [e]
  norm_cast
theorem sum_ok (ns : List Int) : fSum (.list (ns.map .int)) = some (.int (sumI ns)) := by
  show (intsOf (ns.map .int)).map _ = _
  rw [intsOf_ints]; rfl
theorem sumT_ok (ns : List Int) : fSum (.tuple (ns.map .int)) = some (.int (sumI ns)) := by
  show (intsOf (ns.map .int)).map _ = _
  rw [intsOf_ints]; rfl
theorem sumI_bd {k : Int} : ∀ (ns : List Int), (∀ x ∈ ns, 0 ≤ x ∧ x ≤ k) → 0 ≤ sumI ns ∧ sumI ns ≤ ns.length * k
  | [], _ => ⟨Int.le_refl 0, by simp [sumI]⟩
  | x :: r, h => by
    have h1 := h x List.mem_cons_self
    have h2 := sumI_bd r fun y hy => h y (List.mem_cons_of_mem _ hy)
    have e : sumI (x :: r) = x + sumI r := rfl
    have e2 : (((x :: r).length : Nat) : Int) * k = r.length * k + k := by rw [List.length_cons]; push_cast; rw [Int.add_mul, Int.one_mul]
    rw [e, e2]
    exact ⟨by omega, by omega⟩
theorem all_true {α : Type} (xs : List α) : fAll (.list (xs.map fun _ => .bool true)) = some (.bool true) := by
  have e : xs.map (fun _ => PyData.bool true) = (xs.map fun _ => true).map .bool := by rw [List.map_map]; rfl
  show (boolsOf (xs.map fun _ => PyData.bool true)).map _ = _
  rw [e, boolsOf_bools]
  simp
theorem sNever_not {t : Tx} {sl s1 : Sl} (h : t sl = .ok true s1) : sIf (tNot' t) sNever sSkip sl = .nx s1 := by
  rw [sIf_f (tNot_ok h)]; rfl
end DE
namespace DE
namespace k87
open PySem PySem.Spec PyProof.Rows L2
def b_law_fr_hat : Sx :=
    sSeqN (sSet 2 (eIf (tTru (eBin fLt (eVar 1) (eLenO 0))) (eUn fInt (eIxS 0 (eVar 1))) (eBin fAdd (eBin fMul (eC (.int 463)) (eVar 1)) (eC (.int 97)))))
    (sSeqN (sSet 3 (eBin fMod (eUn fInt (eUn fAbs (eVar 2))) (eBin fPow (eBin fPow (eC (.int 10)) (eC (.int 55))) (eC (.int 7)))))
    (sSeqN (sSet 4 (eUn fInt (eBin fAdd (eBin fAdd (eBin fAdd (eBin fMul (eBin fMod (eVar 3) (eC (.int 2305843009213693669))) (eC (.int 83))) (eBin fMul (eC (.int 5011)) (eVar 1))) (eBin fMul (eC (.int 37)) (eUn fInt (eBin fLt (eVar 2) (eC (.int 0)))))) (eC (.int 53)))))
    (sRetL (eCons (eBin fMax2 (eC (.int 0)) (eBin fSub (eVar 3) (eBin fPow (eC (.int 10)) (eC (.int 16))))) (eCons (eBin fMod (eVar 4) (eC (.int 2305843009213693951))) (eCons (eC (.int 0)) (eNil)))))))
def m_law_fr_hat : Fn := mkFnN 2 5 b_law_fr_hat
def b_is_whole : Sx :=
    sRet (eAnd (eUn (fIsi .int) (eVar 0)) (eUn fNot (eUn (fIsi .bool) (eVar 0))))
def m_is_whole : Fn := mkFn 1 1 b_is_whole
def b_is_within : Sx :=
    sRet (eAnd (eCall m_is_whole (eCons (eVar 0) (eNil))) (eChain fLe fLe (eVar 1) (eVar 0) (eVar 2)))
def m_is_within : Fn := mkFn 3 3 b_is_within
def b_require_within : Sx :=
    sIf (tNot' (tTru (eCall m_is_within (eCons (eVar 0) (eCons (eVar 1) (eCons (eVar 2) (eNil))))))) (sNever) (sSkip)
def m_require_within : Fn := mkFn 3 3 b_require_within
def te_is_pair_of_words_1 : Ex :=
    eCall m_is_within (eCons (eVar 2) (eCons (eC (.int 0)) (eCons (eBin fSub (eBin fShl (eC (.int 1)) (eVar 0)) (eC (.int 1))) (eNil))))
def b_is_pair_of_words : Sx :=
    sSeq (sIf (tOr' (tNot' (tTru (eUn (fIsi .tuple) (eVar 1)))) (tTru (eBin fNe (eUn fLen (eVar 1)) (eC (.int 2))))) (sRet (eC (.bool false))) (sSkip))
    (sRet (eUn fAll (eComp (eItems (eVar 1)) [2] (gNm 2) (tYes') (te_is_pair_of_words_1))))
def m_is_pair_of_words : Fn := mkFn 2 3 b_is_pair_of_words
def te_require_doubling_1 : Ex :=
    eCall m_is_pair_of_words (eCons (eVar 0) (eCons (eVar 2) (eNil)))
def b_require_doubling : Sx :=
    sSeq (sExpr (eCall m_require_within (eCons (eVar 0) (eCons (eC (.int 1)) (eCons (eC (.int 3)) (eNil))))))
    (sSeq (sIf (tOr' (tNot' (tTru (eUn (fIsi .tuple) (eVar 1)))) (tTru (eBin fNe (eUn fLen (eVar 1)) (eBin fShl (eC (.int 1)) (eVar 0))))) (sNever) (sSkip))
    (sIf (tNot' (tTru (eUn fAll (eComp (eItems (eVar 1)) [2] (gNm 2) (tYes') (te_require_doubling_1))))) (sNever) (sSkip)))
def m_require_doubling : Fn := mkFn 2 3 b_require_doubling
def b_is_bit : Sx :=
    sRet (eCall m_is_within (eCons (eVar 0) (eCons (eC (.int 0)) (eCons (eC (.int 1)) (eNil)))))
def m_is_bit : Fn := mkFn 1 1 b_is_bit
def te_is_asker_in_1 (rc : Fn) : Ex :=
    eCall rc (eCons (eVar 0) (eCons (eVar 1) (eCons (eVar 4) (eCons (eBin fSub (eVar 3) (eC (.int 1))) (eNil)))))
def m_is_asker_in : Nat → Fn
  | 0 => fnStuck
  | n + 1 => mkFn 4 5 (
    sSeq (sIf (tTru (eCall m_is_bit (eCons (eVar 2) (eNil)))) (sRet (eC (.bool true))) (sSkip))
    (sSeq (sIf (tOr' (tNot' (tTru (eUn (fIsi .tuple) (eVar 2)))) (tOr' (tTru (eBin fNe (eUn fLen (eVar 2)) (eC (.int 2)))) (tOr' (tTru (eBin fEq (eVar 3) (eC (.int 0)))) (tNot' (tTru (eCall m_is_within (eCons (eBin fIx (eVar 2) (eC (.int 0))) (eCons (eC (.int 0)) (eCons (eBin fSub (eBin fShl (eC (.int 1)) (eVar 1)) (eC (.int 1))) (eNil)))))))))) (sRet (eC (.bool false))) (sSkip))
    (sSeq (sIf (tOr' (tNot' (tTru (eUn (fIsi .tuple) (eBin fIx (eVar 2) (eC (.int 1)))))) (tTru (eBin fNe (eUn fLen (eBin fIx (eVar 2) (eC (.int 1)))) (eBin fShl (eC (.int 1)) (eVar 0))))) (sRet (eC (.bool false))) (sSkip))
    (sRet (eUn fAll (eComp (eItems (eBin fIx (eVar 2) (eC (.int 1)))) [4] (gNm 4) (tYes') ((te_is_asker_in_1 (m_is_asker_in n)))))))))
def b_require_asker : Sx :=
    sIf (tNot' (tTru (eCall (m_is_asker_in 5) (eCons (eVar 0) (eCons (eVar 1) (eCons (eVar 2) (eCons (eC (.int 3)) (eNil)))))))) (sNever) (sSkip)
def m_require_asker : Fn := mkFn 3 3 b_require_asker
def b_require_all : Sx :=
    sSeq (sExpr (eCall m_require_doubling (eCons (eVar 0) (eCons (eVar 1) (eNil)))))
    (sSeq (sExpr (eCall m_require_within (eCons (eVar 2) (eCons (eC (.int 1)) (eCons (eC (.int 4)) (eNil))))))
    (sExpr (eCall m_require_asker (eCons (eVar 0) (eCons (eVar 2) (eCons (eVar 3) (eNil)))))))
def m_require_all : Fn := mkFn 4 4 b_require_all
def te_questions_in_1 (rc : Fn) : Ex :=
    eCall rc (eCons (eVar 1) (eNil))
def m_questions_in : Nat → Fn
  | 0 => fnStuck
  | n + 1 => mkFn 1 2 (
    sRet (eIf (tTru (eCall m_is_bit (eCons (eVar 0) (eNil)))) (eC (.int 0)) (eBin fAdd (eC (.int 1)) (eUn fMax (eComp (eItems (eBin fIx (eVar 0) (eC (.int 1)))) [1] (gNm 1) (tYes') ((te_questions_in_1 (m_questions_in n))))))))
def b_require_indices : Sx :=
    sSeq (sExpr (eCall m_require_within (eCons (eVar 2) (eCons (eC (.int 0)) (eCons (eBin fSub (eVar 0) (eC (.int 1))) (eNil))))))
    (sExpr (eCall m_require_within (eCons (eVar 3) (eCons (eC (.int 0)) (eCons (eBin fSub (eCall (m_questions_in 5) (eCons (eVar 1) (eNil))) (eC (.int 1))) (eNil))))))
def m_require_indices : Fn := mkFn 4 4 b_require_indices
def b_below_in : Sx :=
    sSeq (sAsg (eVar 1) (gTp 3 (gsCons (gNm 4) (gsCons (gNm 5) (gsCons (gNm 6) gsNil)))))
    (sSeq (sIf (tTru (eBin fEq (eVar 3) (eVar 5))) (sRet (eVar 2)) (sSkip))
    (sRet (eIf (tTru (eBin fLt (eVar 3) (eVar 5))) (eBin fIx (eVar 6) (eVar 3)) (eBin fIx (eVar 0) (eBin fIx (eVar 6) (eVar 3))))))
def m_below_in : Fn := mkFn 4 7 b_below_in
def fb_led_down_1 : Sx :=
    sSet 1 (eBin fIx (eBin fIx (eVar 0) (eVar 1)) (eBin fBand (eBin fShr (eVar 2) (eVar 5)) (eC (.int 1))))
def b_led_down : Sx :=
    sSeq (sFor (eRange2 (eVar 3) (eVar 4)) (gNm 5) (fb_led_down_1))
    (sRet (eVar 1))
def m_led_down : Fn := mkFn 5 6 b_led_down
def wt_end_below_1 : Tx :=
    tNot' (tTru (eCall m_is_bit (eCons (eVar 2) (eNil))))
def wb_end_below_1 : Sx :=
    sSeq (sSet 7 (eBin fIx (eVar 2) (eC (.int 0))))
    (sSeq (sSet 8 (eSetd 5 (eBin fBand (eVar 7) (eBin fSub (eBin fShl (eC (.int 1)) (eVar 6)) (eC (.int 1)))) (eLenOD 5)))
    (sSeq (sSet 9 (eCall m_below_in (eCons (eVar 0) (eCons (eVar 3) (eCons (eVar 4) (eCons (eVar 8) (eNil)))))))
    (sSet 2 (eBin fIx (eBin fIx (eVar 2) (eC (.int 1))) (eCall m_led_down (eCons (eVar 0) (eCons (eBin fIx (eVar 9) (eBin fBand (eBin fShr (eVar 7) (eVar 6)) (eC (.int 1)))) (eCons (eVar 7) (eCons (eBin fAdd (eVar 6) (eC (.int 1))) (eCons (eVar 1) (eNil)))))))))))
def b_end_below : Sx :=
    sSeq (sParD' 5 6 (puIx (puVar 3) (puC (.int 0))))
    (sSeq (sWhile 5 (wt_end_below_1) (wb_end_below_1))
    (sRet (eVar 2)))
def m_end_below : Fn := mkFn 5 10 b_end_below
def te_test_in_1 : Ex :=
    eTup (eCons (eBin fBand (eVar 6) (eBin fSub (eBin fShl (eC (.int 1)) (eVar 0)) (eC (.int 1)))) (eCons (eBin fShr (eVar 6) (eVar 0)) (eNil)))
def te_test_in_2 : Ex :=
    eCall m_end_below (eCons (eVar 1) (eCons (eVar 2) (eCons (eVar 3) (eCons (eVar 4) (eCons (eVar 7) (eNil))))))
def b_test_in : Sx :=
    sSeq (sSet 5 (eComp (eRange1 (eBin fShl (eC (.int 1)) (eBin fMul (eC (.int 2)) (eVar 0)))) [6] (gNm 6) (tYes') (te_test_in_1)))
    (sRet (eUn fTuple (eComp (eItems (eVar 5)) [7] (gNm 7) (tYes') (te_test_in_2))))
def m_test_in : Fn := mkFn 5 8 b_test_in
def te_are_others_1 : Ex :=
    eCall m_is_pair_of_words (eCons (eVar 0) (eCons (eVar 4) (eNil)))
def te_are_others_2 : Ex :=
    eCall m_is_within (eCons (eVar 5) (eCons (eC (.int 0)) (eCons (eBin fSub (eBin fShl (eC (.int 1)) (eVar 0)) (eC (.int 1))) (eNil))))
def b_are_others : Sx :=
    sSeq (sIf (tOr' (tNot' (tTru (eUn (fIsi .tuple) (eVar 3)))) (tOr' (tTru (eBin fNe (eUn fLen (eVar 3)) (eVar 1))) (tTru (eBin fIsNot (eBin fIx (eVar 3) (eVar 2)) (eC .none))))) (sRet (eC (.bool false))) (sSkip))
    (sSeq (sIf (tNot' (tTru (eUn fAll (eComp (eItems (eSl (eVar 3) eP0 (eP (eVar 2)))) [4] (gNm 4) (tYes') (te_are_others_1))))) (sRet (eC (.bool false))) (sSkip))
    (sRet (eUn fAll (eComp (eItems (eSl (eVar 3) (eP (eBin fAdd (eVar 2) (eC (.int 1)))) eP0)) [5] (gNm 5) (tYes') (te_are_others_2)))))
def m_are_others : Fn := mkFn 4 6 b_are_others
def b_made_test : Sx :=
    sSeq (sExpr (eCall m_require_all (eCons (eVar 0) (eCons (eVar 1) (eCons (eVar 2) (eCons (eVar 3) (eNil)))))))
    (sSeq (sExpr (eCall m_require_indices (eCons (eVar 2) (eCons (eVar 3) (eCons (eVar 4) (eCons (eVar 5) (eNil)))))))
    (sSeq (sIf (tNot' (tTru (eCall m_are_others (eCons (eVar 0) (eCons (eCall (m_questions_in 5) (eCons (eVar 3) (eNil))) (eCons (eVar 5) (eCons (eVar 6) (eNil)))))))) (sNever) (sSkip))
    (sRet (eCall m_test_in (eCons (eVar 0) (eCons (eVar 1) (eCons (eVar 2) (eCons (eVar 3) (eCons (eTup (eCons (eVar 4) (eCons (eVar 5) (eCons (eVar 6) (eNil))))) (eNil))))))))))
def m_made_test : Fn := mkFn 7 7 b_made_test
def b_fraction_in : Sx :=
    sSeq (sSet 2 (eIf (tTru (eBin fGt (eVar 1) (eC (.int 0)))) (eBin fGcd (eVar 0) (eVar 1)) (eUn fNeg (eBin fGcd (eVar 0) (eVar 1)))))
    (sRet (eTup (eCons (eBin fDiv (eVar 0) (eVar 2)) (eCons (eBin fDiv (eVar 1) (eVar 2)) (eNil)))))
def m_fraction_in : Fn := mkFn 2 3 b_fraction_in
def te_are_bits_1 : Ex :=
    eCall m_is_bit (eCons (eVar 2) (eNil))
def b_are_bits : Sx :=
    sRet (eAnd (eUn (fIsi .tuple) (eVar 0)) (eAnd (eBin fEq (eUn fLen (eVar 0)) (eVar 1)) (eUn fAll (eComp (eItems (eVar 0)) [2] (gNm 2) (tYes') (te_are_bits_1)))))
def m_are_bits : Fn := mkFn 2 3 b_are_bits
def te_pair_edge_tops_1 : Ex :=
    eBin fIx (eVar 2) (eBin fAdd (eVar 4) (eBin fShl (eVar 5) (eVar 0)))
def b_pair_edge_tops : Sx :=
    sSeq (sSet 3 (eUn fSum (eComp (eItems (eVar 1)) [4, 5] (gTp 2 (gsCons (gNm 4) (gsCons (gNm 5) gsNil))) (tYes') (te_pair_edge_tops_1))))
    (sRet (eBin fSub (eBin fShl (eVar 3) (eVar 0)) (eUn fSum (eVar 2))))
def m_pair_edge_tops : Fn := mkFn 3 6 b_pair_edge_tops
def b_pair_edge : Sx :=
    sSeq (sExpr (eCall m_require_doubling (eCons (eVar 0) (eCons (eVar 1) (eNil)))))
    (sSeq (sIf (tNot' (tTru (eCall m_are_bits (eCons (eVar 2) (eCons (eBin fShl (eC (.int 1)) (eBin fMul (eC (.int 2)) (eVar 0))) (eNil)))))) (sNever) (sSkip))
    (sRet (eCall m_fraction_in (eCons (eCall m_pair_edge_tops (eCons (eVar 0) (eCons (eVar 1) (eCons (eVar 2) (eNil))))) (eCons (eBin fShl (eC (.int 1)) (eBin fMul (eC (.int 2)) (eVar 0))) (eNil))))))
def m_pair_edge : Fn := mkFn 3 3 b_pair_edge
def b_law_fr_up : Sx :=
    sSeq (sIf (tTru (eBin fGt (eIxO 0 (eC (.int 0))) (eC (.int 0)))) (sSeq (sSet 2 (eBin fMod (eUn fInt (eIxO 0 (eC (.int 0)))) (eVar 1)))
    (sSeq (sPut 0 (eC (.int 0)) (eBin fDiv (eIxO 0 (eC (.int 0))) (eVar 1)))
    (sRet (eVar 2)))) (sSkip))
    (sSeq (sPut 0 (eC (.int 2)) (eBin fAdd (eIxO 0 (eC (.int 2))) (eC (.int 1))))
    (sSeq (sSet 3 (eBin fMod (eUn fInt (eBin fAdd (eIxO 0 (eC (.int 1))) (eBin fMul (eC (.int 32452843)) (eIxO 0 (eC (.int 2)))))) (eC (.int 2305843009213693951))))
    (sSeq (sSet 4 (eBin fAdd (eBin fAdd (eBin fMul (eBin fMod (eUn fInt (eBin fAdd (eBin fMul (eVar 3) (eVar 3)) (eC (.int 49979687)))) (eC (.int 2305843009213693921))) (eC (.int 15485863))) (eVar 3)) (eBin fMul (eC (.int 23)) (eIxO 0 (eC (.int 2))))))
    (sRet (eBin fMod (eUn fInt (eBin fDiv (eVar 4) (eC (.int 65539)))) (eVar 1))))))
def m_law_fr_up : Fn := mkFn 2 5 b_law_fr_up
def b_law_fr_of : Sx :=
    sRet (eBin fIx (eVar 1) (eCallIO m_law_fr_up 0 (eCons (eUn fLen (eVar 1)) (eNil))))
def m_law_fr_of : Fn := mkFn 2 2 b_law_fr_of
def te_law_tr_doubling_1 : Ex :=
    eTup (eCons (eCallIO m_law_fr_up 0 (eCons (eVar 2) (eNil))) (eCons (eCallIO m_law_fr_up 0 (eCons (eVar 2) (eNil))) (eNil)))
def te_law_tr_doubling_2 : Ex :=
    eTup (eCons (eBin fIx (eVar 5) (eC (.int 0))) (eCons (eBin fIx (eVar 5) (eC (.int 0))) (eNil)))
def b_law_tr_doubling : Sx :=
    sSeq (sSet 2 (eBin fIx (eLst (eCons (eC (.int 1)) (eCons (eC (.int 2)) (eCons (eC (.int 4)) (eCons (eC (.int 8)) (eNil)))))) (eVar 1)))
    (sSeq (sSet 3 (eUn fTuple (eComp (eRange1 (eVar 2)) [4] (gNm 4) (tYes') (te_law_tr_doubling_1))))
    (sSeq (sIf (tTru (eBin fEq (eCallIO m_law_fr_up 0 (eCons (eC (.int 4)) (eNil))) (eC (.int 0)))) (sSet 3 (eUn fTuple (eComp (eItems (eVar 3)) [5] (gNm 5) (tYes') (te_law_tr_doubling_2)))) (sSkip))
    (sRet (eVar 3))))
def m_law_tr_doubling : Fn := mkFn 2 6 b_law_tr_doubling
def te_law_tr_asker_1 (rc : Fn) : Ex :=
    eCallIO rc 0 (eCons (eVar 1) (eCons (eVar 2) (eCons (eBin fSub (eVar 3) (eC (.int 1))) (eNil))))
def m_law_tr_asker : Nat → Fn
  | 0 => fnStuck
  | n + 1 => mkFn 4 6 (
    sSeq (sIf (tOr' (tTru (eBin fEq (eVar 3) (eC (.int 0)))) (tTru (eBin fEq (eCallIO m_law_fr_up 0 (eCons (eC (.int 9)) (eNil))) (eC (.int 0))))) (sRet (eCallIO m_law_fr_up 0 (eCons (eC (.int 2)) (eNil)))) (sSkip))
    (sSeq (sSet 4 (eCallIO m_law_fr_up 0 (eCons (eBin fIx (eLst (eCons (eC (.int 1)) (eCons (eC (.int 2)) (eCons (eC (.int 4)) (eCons (eC (.int 8)) (eCons (eC (.int 16)) (eNil))))))) (eVar 2)) (eNil))))
    (sRet (eTup (eCons (eVar 4) (eCons (eUn fTuple (eComp (eRange1 (eBin fIx (eLst (eCons (eC (.int 1)) (eCons (eC (.int 2)) (eCons (eC (.int 4)) (eCons (eC (.int 8)) (eNil)))))) (eVar 1))) [5] (gNm 5) (tYes') ((te_law_tr_asker_1 (m_law_tr_asker n))))) (eNil)))))))
def te_law_fr_bits_1 : Ex :=
    eCallIO m_law_fr_up 0 (eCons (eC (.int 2)) (eNil))
def b_law_fr_bits : Sx :=
    sRet (eUn fTuple (eComp (eRange1 (eVar 1)) [2] (gNm 2) (tYes') (te_law_fr_bits_1)))
def m_law_fr_bits : Fn := mkFn 2 3 b_law_fr_bits
def b_questions : Sx :=
    sSeq (sExpr (eCall m_require_within (eCons (eVar 0) (eCons (eC (.int 1)) (eCons (eC (.int 3)) (eNil))))))
    (sSeq (sExpr (eCall m_require_within (eCons (eVar 1) (eCons (eC (.int 1)) (eCons (eC (.int 4)) (eNil))))))
    (sSeq (sExpr (eCall m_require_asker (eCons (eVar 0) (eCons (eVar 1) (eCons (eVar 2) (eNil))))))
    (sRet (eCall (m_questions_in 5) (eCons (eVar 2) (eNil))))))
def m_questions : Fn := mkFn 3 3 b_questions
def wt_law_fr_shared_1 : Tx :=
    tTru (eBin fGt (eVar 1) (eC (.int 0)))
def wb_law_fr_shared_1 : Sx :=
    sPar 0 1 (eVar 1) (eBin fMod (eVar 0) (eVar 1))
def b_law_fr_shared : Sx :=
    sSeq (sPar 0 1 (eUn fAbs (eVar 0)) (eUn fAbs (eVar 1)))
    (sSeq (sWhile 100 (wt_law_fr_shared_1) (wb_law_fr_shared_1))
    (sRet (eVar 0)))
def m_law_fr_shared : Fn := mkFn 2 2 b_law_fr_shared
def b_law_fr_made : Sx :=
    sSeq (sSet 2 (eCall m_law_fr_shared (eCons (eVar 0) (eCons (eVar 1) (eNil)))))
    (sSeq (sIf (tTru (eBin fLt (eVar 1) (eC (.int 0)))) (sSet 2 (eBin fSub (eC (.int 0)) (eVar 2))) (sSkip))
    (sRet (eTup (eCons (eBin fDiv (eVar 0) (eVar 2)) (eCons (eBin fDiv (eVar 1) (eVar 2)) (eNil))))))
def m_law_fr_made : Fn := mkFn 2 3 b_law_fr_made
def te_law_tr_edge_1 : Ex :=
    eBin fIx (eVar 1) (eBin fAdd (eVar 4) (eBin fMul (eVar 2) (eVar 5)))
def b_law_tr_edge : Sx :=
    sSeq (sSet 2 (eUn fLen (eVar 0)))
    (sSeq (sSet 3 (eUn fSum (eComp (eItems (eVar 0)) [4, 5] (gTp 2 (gsCons (gNm 4) (gsCons (gNm 5) gsNil))) (tYes') (te_law_tr_edge_1))))
    (sRet (eCall m_law_fr_made (eCons (eBin fSub (eBin fMul (eVar 3) (eVar 2)) (eUn fSum (eVar 1))) (eCons (eBin fMul (eVar 2) (eVar 2)) (eNil))))))
def m_law_tr_edge : Fn := mkFn 2 6 b_law_tr_edge
def fb_law_tr_others_1 : Sx :=
    sSeq (sSet 7 (eTup (eCons (eCallIO m_law_fr_up 0 (eCons (eVar 4) (eNil))) (eCons (eCallIO m_law_fr_up 0 (eCons (eVar 4) (eNil))) (eNil)))))
    (sExpr (eApp 5 (eIf (tTru (eBin fLt (eVar 6) (eVar 3))) (eVar 7) (eIf (tTru (eBin fEq (eVar 6) (eVar 3))) (eC .none) (eBin fIx (eVar 7) (eC (.int 0)))))))
def b_law_tr_others : Sx :=
    sSeq (sParN 4 5 (eBin fIx (eLst (eCons (eC (.int 1)) (eCons (eC (.int 2)) (eCons (eC (.int 4)) (eCons (eC (.int 8)) (eNil)))))) (eVar 1)))
    (sSeq (sFor (eRange1 (eVar 2)) (gNm 6) (fb_law_tr_others_1))
    (sRet (eUn fTuple (eVar 5))))
def m_law_tr_others : Fn := mkFn 4 8 b_law_tr_others
def b_law_tr_below : Sx :=
    sSeq (sIf (tTru (eBin fEq (eVar 5) (eVar 2))) (sRet (eVar 4)) (sSkip))
    (sRet (eIf (tTru (eBin fLt (eVar 5) (eVar 2))) (eBin fIx (eVar 3) (eVar 5)) (eBin fIx (eVar 0) (eBin fIx (eVar 3) (eVar 5)))))
def m_law_tr_below : Fn := mkFn 6 6 b_law_tr_below
def fb_law_tr_leaf_1 : Sx :=
    sSeq (sSet 2 (eBin fIx (eBin fIx (eVar 0) (eVar 2)) (eBin fMod (eVar 3) (eC (.int 2)))))
    (sSet 3 (eBin fDiv (eVar 3) (eC (.int 2))))
def b_law_tr_leaf : Sx :=
    sSeq (sFor (eRange1 (eVar 1)) (gNm 4) (fb_law_tr_leaf_1))
    (sRet (eVar 2))
def m_law_tr_leaf : Fn := mkFn 4 5 b_law_tr_leaf
def fb_law_tr_met_1 : Sx :=
    sSeq (sExpr (eApp 9 (eBin fMod (eVar 8) (eC (.int 2)))))
    (sSet 8 (eBin fDiv (eVar 8) (eC (.int 2))))
def wt_law_tr_met_1 : Tx :=
    tTru (eUn (fIsi .tuple) (eVar 2))
def wb_law_tr_met_1 : Sx :=
    sSeq (sParN 8 9 (eBin fIx (eVar 2) (eC (.int 0))))
    (sSeq (sFor (eRange1 (eVar 3)) (gNm 10) (fb_law_tr_met_1))
    (sSeq (sIf (tTru (eInO true 7 (eVar 9))) (sExpr (eApp 7 (eVar 9))) (sSkip))
    (sSeq (sSet 11 (eCall m_law_tr_below (eCons (eVar 0) (eCons (eVar 3) (eCons (eVar 4) (eCons (eVar 5) (eCons (eVar 6) (eCons (eIdxO 7 (eVar 9)) (eNil)))))))))
    (sSet 2 (eBin fIx (eBin fIx (eVar 2) (eC (.int 1))) (eCall m_law_tr_leaf (eCons (eVar 0) (eCons (eBin fSub (eBin fSub (eVar 1) (eVar 3)) (eC (.int 1))) (eCons (eBin fIx (eVar 11) (eBin fMod (eVar 8) (eC (.int 2)))) (eCons (eBin fDiv (eVar 8) (eC (.int 2))) (eNil)))))))))))
def b_law_tr_met : Sx :=
    sSeq (sNew 7 (eNil))
    (sSeq (sWhile 5 (wt_law_tr_met_1) (wb_law_tr_met_1))
    (sRet (eVar 2)))
def m_law_tr_met : Fn := mkFn 7 12 b_law_tr_met
def te_law_tr_test_1 : Ex :=
    eCall m_law_tr_met (eCons (eVar 1) (eCons (eVar 2) (eCons (eVar 3) (eCons (eVar 4) (eCons (eVar 5) (eCons (eVar 6) (eCons (eTup (eCons (eVar 10) (eCons (eVar 9) (eNil)))) (eNil))))))))
def fb_law_tr_test_1 : Sx :=
    sExpr (eExt 8 (eComp (eRange1 (eVar 7)) [10] (gNm 10) (tYes') (te_law_tr_test_1)))
def b_law_tr_test : Sx :=
    sSeq (sParN 7 8 (eBin fIx (eLst (eCons (eC (.int 1)) (eCons (eC (.int 2)) (eCons (eC (.int 4)) (eCons (eC (.int 8)) (eNil)))))) (eVar 0)))
    (sSeq (sFor (eRange1 (eVar 7)) (gNm 9) (fb_law_tr_test_1))
    (sRet (eUn fTuple (eVar 8))))
def m_law_tr_test : Fn := mkFn 7 11 b_law_tr_test
def fb_law_right_1 : Sx :=
    sSeq (sPar 8 9 (eCallIO m_law_fr_up 0 (eCons (eVar 2) (eNil))) (eCallIO m_law_fr_up 0 (eCons (eVar 6) (eNil))))
    (sSeq (sSet 10 (eCallIO m_law_tr_others 0 (eCons (eVar 1) (eCons (eVar 6) (eCons (eVar 9) (eNil))))))
    (sSeq (sSet 11 (eCall m_made_test (eCons (eVar 1) (eCons (eVar 3) (eCons (eVar 2) (eCons (eVar 4) (eCons (eVar 8) (eCons (eVar 9) (eCons (eVar 10) (eNil))))))))))
    (sSeq (sIf (tTru (eBin fNe (eVar 11) (eCall m_law_tr_test (eCons (eVar 1) (eCons (eVar 3) (eCons (eVar 2) (eCons (eVar 4) (eCons (eVar 8) (eCons (eVar 9) (eCons (eVar 10) (eNil))))))))))) (sRet (eC (.bool false))) (sSkip))
    (sSeq (sIf (tTru (eBin fNe (eCall m_pair_edge (eCons (eVar 1) (eCons (eVar 3) (eCons (eVar 11) (eNil))))) (eCall m_law_tr_edge (eCons (eVar 3) (eCons (eVar 11) (eNil)))))) (sRet (eC (.bool false))) (sSkip))
    (sIf (tAnd' (tTru (eBin fEq (eVar 8) (eC (.int 0)))) (tAnd' (tTru (eBin fGt (eVar 9) (eC (.int 0)))) (tTru (eBin fNe (eUn fLenSet (eVar 11)) (eC (.int 1)))))) (sRet (eC (.bool false))) (sSkip))))))
def b_law_right : Sx :=
    sSeq (sAsg (eCallIO m_law_fr_of 0 (eCons (eLst (eCons (eTup (eCons (eC (.int 1)) (eCons (eC (.int 1)) (eNil)))) (eCons (eTup (eCons (eC (.int 1)) (eCons (eC (.int 2)) (eNil)))) (eCons (eTup (eCons (eC (.int 1)) (eCons (eC (.int 3)) (eNil)))) (eCons (eTup (eCons (eC (.int 1)) (eCons (eC (.int 4)) (eNil)))) (eCons (eTup (eCons (eC (.int 2)) (eCons (eC (.int 1)) (eNil)))) (eCons (eTup (eCons (eC (.int 2)) (eCons (eC (.int 2)) (eNil)))) (eCons (eTup (eCons (eC (.int 2)) (eCons (eC (.int 3)) (eNil)))) (eCons (eTup (eCons (eC (.int 3)) (eCons (eC (.int 1)) (eNil)))) (eCons (eTup (eCons (eC (.int 3)) (eCons (eC (.int 2)) (eNil)))) (eNil))))))))))) (eNil))) (gTp 2 (gsCons (gNm 1) (gsCons (gNm 2) gsNil))))
    (sSeq (sSet 3 (eCallIO m_law_tr_doubling 0 (eCons (eVar 1) (eNil))))
    (sSeq (sSet 4 (eCallIO (m_law_tr_asker 5) 0 (eCons (eVar 1) (eCons (eVar 2) (eCons (eIf (tTru (eBin fLt (eVar 1) (eC (.int 3)))) (eCallIO m_law_fr_of 0 (eCons (eLst (eCons (eC (.int 1)) (eCons (eC (.int 2)) (eCons (eC (.int 2)) (eCons (eC (.int 3)) (eNil)))))) (eNil))) (eBin fAdd (eC (.int 1)) (eCallIO m_law_fr_up 0 (eCons (eC (.int 2)) (eNil))))) (eNil))))))
    (sSeq (sSet 5 (eCallIO m_law_fr_bits 0 (eCons (eBin fIx (eLst (eCons (eC (.int 1)) (eCons (eC (.int 4)) (eCons (eC (.int 16)) (eCons (eC (.int 64)) (eNil)))))) (eVar 1)) (eNil))))
    (sSeq (sIf (tTru (eBin fNe (eCall m_pair_edge (eCons (eVar 1) (eCons (eVar 3) (eCons (eVar 5) (eNil))))) (eCall m_law_tr_edge (eCons (eVar 3) (eCons (eVar 5) (eNil)))))) (sRet (eC (.bool false))) (sSkip))
    (sSeq (sSet 6 (eCall m_questions (eCons (eVar 1) (eCons (eVar 2) (eCons (eVar 4) (eNil))))))
    (sSeq (sFor (eRange1 (eIf (tTru (eBin fGt (eVar 6) (eC (.int 0)))) (eC (.int 3)) (eC (.int 0)))) (gNm 7) (fb_law_right_1))
    (sRet (eC (.bool true)))))))))
def m_law_right : Fn := mkFn 1 12 b_law_right
def fb_law_1 : Sx :=
    sIf (tNot' (tTru (eCallIO m_law_right 2 (eNil)))) (sRet (eC (.bool false))) (sSkip)
def fb_law_2 : Sx :=
    sSeq (sTakeS 2 m_law_fr_hat 0 (eCons (eVar 1) (eNil)))
    (sFor (eRange1 (eC (.int 4))) (gNm 3) (fb_law_1))
def te_law_1 : Ex :=
    eCall m_made_test (eCons (eC (.int 1)) (eCons (eVar 3) (eCons (eC (.int 1)) (eCons (eVar 4) (eCons (eC (.int 0)) (eCons (eC (.int 0)) (eCons (eTup (eCons (eC .none) (eCons (eVar 6) (eNil)))) (eNil))))))))
def te_law_2 : Ex :=
    eCall m_made_test (eCons (eC (.int 1)) (eCons (eVar 3) (eCons (eC (.int 1)) (eCons (eVar 4) (eCons (eC (.int 0)) (eCons (eC (.int 1)) (eCons (eTup (eCons (eVar 7) (eCons (eC .none) (eNil)))) (eNil))))))))
def te_law_3 : Ex :=
    eCall m_pair_edge (eCons (eC (.int 1)) (eCons (eVar 3) (eCons (eVar 8) (eNil))))
def te_law_4 : Ex :=
    eCall m_made_test (eCons (eC (.int 1)) (eCons (eVar 3) (eCons (eC (.int 2)) (eCons (eVar 9) (eCons (eC (.int 1)) (eCons (eC (.int 0)) (eCons (eTup (eCons (eC .none) (eCons (eVar 6) (eNil)))) (eNil))))))))
def b_law : Sx :=
    sSeq (sFor (eRange1 (eBin fMax2 (eC (.int 1)) (eBin fMin2 (eC (.int 3)) (eLenO 0)))) (gNm 1) (fb_law_2))
    (sSeq (sAsg (eTup (eCons (eTup (eCons (eTup (eCons (eC (.int 0)) (eCons (eC (.int 1)) (eNil)))) (eCons (eTup (eCons (eC (.int 1)) (eCons (eC (.int 0)) (eNil)))) (eNil)))) (eCons (eTup (eCons (eC (.int 0)) (eCons (eTup (eCons (eTup (eCons (eC (.int 1)) (eCons (eTup (eCons (eC (.int 0)) (eCons (eC (.int 1)) (eNil)))) (eNil)))) (eCons (eTup (eCons (eC (.int 1)) (eCons (eTup (eCons (eC (.int 1)) (eCons (eC (.int 0)) (eNil)))) (eNil)))) (eNil)))) (eNil)))) (eNil)))) (gTp 2 (gsCons (gNm 3) (gsCons (gNm 4) gsNil))))
    (sSeq (sSetLcO 5 (eItems (eTup (eCons (eC (.int 0)) (eCons (eC (.int 1)) (eNil))))) [6] (gNm 6) (tYes') (te_law_1))
    (sSeq (sSet 5 (eBin fAdd (eVar 5) (eComp (eItems (eTup (eCons (eTup (eCons (eC (.int 0)) (eCons (eC (.int 1)) (eNil)))) (eCons (eTup (eCons (eC (.int 1)) (eCons (eC (.int 1)) (eNil)))) (eNil))))) [7] (gNm 7) (tYes') (te_law_2))))
    (sSeq (sIf (tTru (eBin fNe (eVar 5) (eLst (eCons (eTup (eCons (eC (.int 0)) (eCons (eC (.int 1)) (eCons (eC (.int 1)) (eCons (eC (.int 0)) (eNil)))))) (eCons (eTup (eCons (eC (.int 0)) (eCons (eC (.int 1)) (eCons (eC (.int 1)) (eCons (eC (.int 0)) (eNil)))))) (eCons (eTup (eCons (eC (.int 1)) (eCons (eC (.int 1)) (eCons (eC (.int 1)) (eCons (eC (.int 1)) (eNil)))))) (eCons (eTup (eCons (eC (.int 0)) (eCons (eC (.int 0)) (eCons (eC (.int 0)) (eCons (eC (.int 0)) (eNil)))))) (eNil)))))))) (sRet (eC (.bool false))) (sSkip))
    (sSeq (sIf (tTru (eBin fNe (eComp (eItems (eTup (eCons (eTup (eCons (eC (.int 0)) (eCons (eC (.int 1)) (eCons (eC (.int 1)) (eCons (eC (.int 0)) (eNil)))))) (eCons (eTup (eCons (eC (.int 1)) (eCons (eC (.int 0)) (eCons (eC (.int 0)) (eCons (eC (.int 0)) (eNil)))))) (eCons (eTup (eCons (eC (.int 1)) (eCons (eC (.int 1)) (eCons (eC (.int 1)) (eCons (eC (.int 1)) (eNil)))))) (eNil)))))) [8] (gNm 8) (tYes') (te_law_3)) (eLst (eCons (eTup (eCons (eC (.int 1)) (eCons (eC (.int 2)) (eNil)))) (eCons (eTup (eCons (eUn fNeg (eC (.int 1))) (eCons (eC (.int 4)) (eNil)))) (eCons (eTup (eCons (eC (.int 0)) (eCons (eC (.int 1)) (eNil)))) (eNil))))))) (sRet (eC (.bool false))) (sSkip))
    (sSeq (sSet 9 (eTup (eCons (eC (.int 0)) (eCons (eTup (eCons (eTup (eCons (eC (.int 3)) (eCons (eTup (eCons (eC (.int 0)) (eCons (eC (.int 1)) (eNil)))) (eNil)))) (eCons (eTup (eCons (eC (.int 3)) (eCons (eTup (eCons (eC (.int 1)) (eCons (eC (.int 0)) (eNil)))) (eNil)))) (eNil)))) (eNil)))))
    (sSeq (sSetLcO 5 (eItems (eTup (eCons (eC (.int 0)) (eCons (eC (.int 1)) (eNil))))) [6] (gNm 6) (tYes') (te_law_4))
    (sSeq (sExpr (eApp 5 (eCall m_made_test (eCons (eC (.int 1)) (eCons (eVar 3) (eCons (eC (.int 2)) (eCons (eVar 9) (eCons (eC (.int 1)) (eCons (eC (.int 1)) (eCons (eTup (eCons (eTup (eCons (eC (.int 0)) (eCons (eC (.int 0)) (eNil)))) (eCons (eC .none) (eNil)))) (eNil)))))))))))
    (sRet (eBin fEq (eVar 5) (eLst (eCons (eTup (eCons (eC (.int 1)) (eCons (eC (.int 0)) (eCons (eC (.int 1)) (eCons (eC (.int 0)) (eNil)))))) (eCons (eTup (eCons (eC (.int 0)) (eCons (eC (.int 1)) (eCons (eC (.int 0)) (eCons (eC (.int 1)) (eNil)))))) (eCons (eTup (eCons (eC (.int 0)) (eCons (eC (.int 0)) (eCons (eC (.int 1)) (eCons (eC (.int 1)) (eNil)))))) (eNil)))))))))))))))
def m_law : Fn := mkFn 1 10 b_law
end k87
end DE
namespace DE
namespace k87
open PySem PySem.Spec PyProof.Rows L2
/-! ### the text -/
def topS (i : Nat) : Stmt := PySem.Challenge.pw_hardbits_k87_whole_made_tests.main.body.getD i (.Pass ⟨0, 0, 0, 0⟩)
abbrev s__law_fr_hat : Stmt := topS 36
abbrev s_is_whole : Stmt := topS 8
abbrev s_is_within : Stmt := topS 9
abbrev s_require_within : Stmt := topS 13
abbrev s_is_pair_of_words : Stmt := topS 19
abbrev s_require_doubling : Stmt := topS 28
abbrev s_is_bit : Stmt := topS 10
abbrev s_is_asker_in : Stmt := topS 20
abbrev s_require_asker : Stmt := topS 29
abbrev s_require_all : Stmt := topS 30
abbrev s_questions_in : Stmt := topS 21
abbrev s_require_indices : Stmt := topS 31
abbrev s_below_in : Stmt := topS 23
abbrev s_led_down : Stmt := topS 22
abbrev s_end_below : Stmt := topS 24
abbrev s_test_in : Stmt := topS 25
abbrev s_are_others : Stmt := topS 27
abbrev s_made_test : Stmt := topS 34
abbrev s_fraction_in : Stmt := topS 12
abbrev s_are_bits : Stmt := topS 11
abbrev s_pair_edge_tops : Stmt := topS 26
abbrev s_pair_edge : Stmt := topS 33
abbrev s__law_fr_up : Stmt := topS 37
abbrev s__law_fr_of : Stmt := topS 38
abbrev s__law_tr_doubling : Stmt := topS 42
abbrev s__law_tr_asker : Stmt := topS 43
abbrev s__law_fr_bits : Stmt := topS 41
abbrev s_questions : Stmt := topS 32
abbrev s__law_fr_shared : Stmt := topS 39
abbrev s__law_fr_made : Stmt := topS 40
abbrev s__law_tr_edge : Stmt := topS 48
abbrev s__law_tr_others : Stmt := topS 49
abbrev s__law_tr_below : Stmt := topS 45
abbrev s__law_tr_leaf : Stmt := topS 44
abbrev s__law_tr_met : Stmt := topS 46
abbrev s__law_tr_test : Stmt := topS 47
abbrev s__law_right : Stmt := topS 50
abbrev s_law : Stmt := topS 51
structure Txt (K : PySem.W.Frag) (mg : Str → Option Value) where
  a__law_fr_hat : Addr
  d__law_fr_hat : FuncData
  F__law_fr_hat : Fun K "_law_fr_hat" "_law_fr_hat" s__law_fr_hat a__law_fr_hat d__law_fr_hat
  g__law_fr_hat : mg "_law_fr_hat" = some (.ref a__law_fr_hat)
  b__law_fr_hat : L2.Binds K d__law_fr_hat ["script", "spot"] []
  a_is_whole : Addr
  d_is_whole : FuncData
  F_is_whole : Fun K "is_whole" "is_whole" s_is_whole a_is_whole d_is_whole
  g_is_whole : mg "is_whole" = some (.ref a_is_whole)
  b_is_whole : L2.Binds K d_is_whole ["value"] []
  a_is_within : Addr
  d_is_within : FuncData
  F_is_within : Fun K "is_within" "is_within" s_is_within a_is_within d_is_within
  g_is_within : mg "is_within" = some (.ref a_is_within)
  b_is_within : L2.Binds K d_is_within ["value", "least", "most"] []
  a_require_within : Addr
  d_require_within : FuncData
  F_require_within : Fun K "require_within" "require_within" s_require_within a_require_within d_require_within
  g_require_within : mg "require_within" = some (.ref a_require_within)
  b_require_within : L2.Binds K d_require_within ["value", "least", "most"] []
  a_is_pair_of_words : Addr
  d_is_pair_of_words : FuncData
  F_is_pair_of_words : Fun K "is_pair_of_words" "is_pair_of_words" s_is_pair_of_words a_is_pair_of_words d_is_pair_of_words
  g_is_pair_of_words : mg "is_pair_of_words" = some (.ref a_is_pair_of_words)
  b_is_pair_of_words : L2.Binds K d_is_pair_of_words ["n", "value"] []
  a_require_doubling : Addr
  d_require_doubling : FuncData
  F_require_doubling : Fun K "require_doubling" "require_doubling" s_require_doubling a_require_doubling d_require_doubling
  g_require_doubling : mg "require_doubling" = some (.ref a_require_doubling)
  b_require_doubling : L2.Binds K d_require_doubling ["n", "doubling"] []
  a_is_bit : Addr
  d_is_bit : FuncData
  F_is_bit : Fun K "is_bit" "is_bit" s_is_bit a_is_bit d_is_bit
  g_is_bit : mg "is_bit" = some (.ref a_is_bit)
  b_is_bit : L2.Binds K d_is_bit ["value"] []
  a_is_asker_in : Addr
  d_is_asker_in : FuncData
  F_is_asker_in : Fun K "is_asker_in" "is_asker_in" s_is_asker_in a_is_asker_in d_is_asker_in
  g_is_asker_in : mg "is_asker_in" = some (.ref a_is_asker_in)
  b_is_asker_in : L2.Binds K d_is_asker_in ["n", "t", "value", "left"] []
  a_require_asker : Addr
  d_require_asker : FuncData
  F_require_asker : Fun K "require_asker" "require_asker" s_require_asker a_require_asker d_require_asker
  g_require_asker : mg "require_asker" = some (.ref a_require_asker)
  b_require_asker : L2.Binds K d_require_asker ["n", "t", "asker"] []
  a_require_all : Addr
  d_require_all : FuncData
  F_require_all : Fun K "require_all" "require_all" s_require_all a_require_all d_require_all
  g_require_all : mg "require_all" = some (.ref a_require_all)
  b_require_all : L2.Binds K d_require_all ["n", "doubling", "t", "asker"] []
  a_questions_in : Addr
  d_questions_in : FuncData
  F_questions_in : Fun K "questions_in" "questions_in" s_questions_in a_questions_in d_questions_in
  g_questions_in : mg "questions_in" = some (.ref a_questions_in)
  b_questions_in : L2.Binds K d_questions_in ["asker"] []
  a_require_indices : Addr
  d_require_indices : FuncData
  F_require_indices : Fun K "require_indices" "require_indices" s_require_indices a_require_indices d_require_indices
  g_require_indices : mg "require_indices" = some (.ref a_require_indices)
  b_require_indices : L2.Binds K d_require_indices ["t", "asker", "i", "j"] []
  a_below_in : Addr
  d_below_in : FuncData
  F_below_in : Fun K "below_in" "below_in" s_below_in a_below_in d_below_in
  g_below_in : mg "below_in" = some (.ref a_below_in)
  b_below_in : L2.Binds K d_below_in ["doubling", "hybrid", "tested", "index"] []
  a_led_down : Addr
  d_led_down : FuncData
  F_led_down : Fun K "led_down" "led_down" s_led_down a_led_down d_led_down
  g_led_down : mg "led_down" = some (.ref a_led_down)
  b_led_down : L2.Binds K d_led_down ["doubling", "word", "x", "begin", "t"] []
  a_end_below : Addr
  d_end_below : FuncData
  F_end_below : Fun K "end_below" "end_below" s_end_below a_end_below d_end_below
  g_end_below : mg "end_below" = some (.ref a_end_below)
  b_end_below : L2.Binds K d_end_below ["doubling", "t", "asker", "hybrid", "tested"] []
  a_test_in : Addr
  d_test_in : FuncData
  F_test_in : Fun K "test_in" "test_in" s_test_in a_test_in d_test_in
  g_test_in : mg "test_in" = some (.ref a_test_in)
  b_test_in : L2.Binds K d_test_in ["n", "doubling", "t", "asker", "hybrid"] []
  a_are_others : Addr
  d_are_others : FuncData
  F_are_others : Fun K "are_others" "are_others" s_are_others a_are_others d_are_others
  g_are_others : mg "are_others" = some (.ref a_are_others)
  b_are_others : L2.Binds K d_are_others ["n", "q", "j", "value"] []
  a_made_test : Addr
  d_made_test : FuncData
  F_made_test : Fun K "made_test" "made_test" s_made_test a_made_test d_made_test
  g_made_test : mg "made_test" = some (.ref a_made_test)
  b_made_test : L2.Binds K d_made_test ["n", "doubling", "t", "asker", "i", "j", "others"] []
  a_fraction_in : Addr
  d_fraction_in : FuncData
  F_fraction_in : Fun K "fraction_in" "fraction_in" s_fraction_in a_fraction_in d_fraction_in
  g_fraction_in : mg "fraction_in" = some (.ref a_fraction_in)
  b_fraction_in : L2.Binds K d_fraction_in ["top", "bottom"] []
  a_are_bits : Addr
  d_are_bits : FuncData
  F_are_bits : Fun K "are_bits" "are_bits" s_are_bits a_are_bits d_are_bits
  g_are_bits : mg "are_bits" = some (.ref a_are_bits)
  b_are_bits : L2.Binds K d_are_bits ["value", "many"] []
  a_pair_edge_tops : Addr
  d_pair_edge_tops : FuncData
  F_pair_edge_tops : Fun K "pair_edge_tops" "pair_edge_tops" s_pair_edge_tops a_pair_edge_tops d_pair_edge_tops
  g_pair_edge_tops : mg "pair_edge_tops" = some (.ref a_pair_edge_tops)
  b_pair_edge_tops : L2.Binds K d_pair_edge_tops ["n", "doubling", "test"] []
  a_pair_edge : Addr
  d_pair_edge : FuncData
  F_pair_edge : Fun K "pair_edge" "pair_edge" s_pair_edge a_pair_edge d_pair_edge
  g_pair_edge : mg "pair_edge" = some (.ref a_pair_edge)
  b_pair_edge : L2.Binds K d_pair_edge ["n", "doubling", "test"] []
  a__law_fr_up : Addr
  d__law_fr_up : FuncData
  F__law_fr_up : Fun K "_law_fr_up" "_law_fr_up" s__law_fr_up a__law_fr_up d__law_fr_up
  g__law_fr_up : mg "_law_fr_up" = some (.ref a__law_fr_up)
  b__law_fr_up : L2.Binds K d__law_fr_up ["hat", "total"] []
  a__law_fr_of : Addr
  d__law_fr_of : FuncData
  F__law_fr_of : Fun K "_law_fr_of" "_law_fr_of" s__law_fr_of a__law_fr_of d__law_fr_of
  g__law_fr_of : mg "_law_fr_of" = some (.ref a__law_fr_of)
  b__law_fr_of : L2.Binds K d__law_fr_of ["hat", "items"] []
  a__law_tr_doubling : Addr
  d__law_tr_doubling : FuncData
  F__law_tr_doubling : Fun K "_law_tr_doubling" "_law_tr_doubling" s__law_tr_doubling a__law_tr_doubling d__law_tr_doubling
  g__law_tr_doubling : mg "_law_tr_doubling" = some (.ref a__law_tr_doubling)
  b__law_tr_doubling : L2.Binds K d__law_tr_doubling ["hat", "n"] []
  a__law_tr_asker : Addr
  d__law_tr_asker : FuncData
  F__law_tr_asker : Fun K "_law_tr_asker" "_law_tr_asker" s__law_tr_asker a__law_tr_asker d__law_tr_asker
  g__law_tr_asker : mg "_law_tr_asker" = some (.ref a__law_tr_asker)
  b__law_tr_asker : L2.Binds K d__law_tr_asker ["hat", "n", "t", "left"] []
  a__law_fr_bits : Addr
  d__law_fr_bits : FuncData
  F__law_fr_bits : Fun K "_law_fr_bits" "_law_fr_bits" s__law_fr_bits a__law_fr_bits d__law_fr_bits
  g__law_fr_bits : mg "_law_fr_bits" = some (.ref a__law_fr_bits)
  b__law_fr_bits : L2.Binds K d__law_fr_bits ["hat", "many"] []
  a_questions : Addr
  d_questions : FuncData
  F_questions : Fun K "questions" "questions" s_questions a_questions d_questions
  g_questions : mg "questions" = some (.ref a_questions)
  b_questions : L2.Binds K d_questions ["n", "t", "asker"] []
  a__law_fr_shared : Addr
  d__law_fr_shared : FuncData
  F__law_fr_shared : Fun K "_law_fr_shared" "_law_fr_shared" s__law_fr_shared a__law_fr_shared d__law_fr_shared
  g__law_fr_shared : mg "_law_fr_shared" = some (.ref a__law_fr_shared)
  b__law_fr_shared : L2.Binds K d__law_fr_shared ["one", "other"] []
  a__law_fr_made : Addr
  d__law_fr_made : FuncData
  F__law_fr_made : Fun K "_law_fr_made" "_law_fr_made" s__law_fr_made a__law_fr_made d__law_fr_made
  g__law_fr_made : mg "_law_fr_made" = some (.ref a__law_fr_made)
  b__law_fr_made : L2.Binds K d__law_fr_made ["top", "bottom"] []
  a__law_tr_edge : Addr
  d__law_tr_edge : FuncData
  F__law_tr_edge : Fun K "_law_tr_edge" "_law_tr_edge" s__law_tr_edge a__law_tr_edge d__law_tr_edge
  g__law_tr_edge : mg "_law_tr_edge" = some (.ref a__law_tr_edge)
  b__law_tr_edge : L2.Binds K d__law_tr_edge ["doubling", "test"] []
  a__law_tr_others : Addr
  d__law_tr_others : FuncData
  F__law_tr_others : Fun K "_law_tr_others" "_law_tr_others" s__law_tr_others a__law_tr_others d__law_tr_others
  g__law_tr_others : mg "_law_tr_others" = some (.ref a__law_tr_others)
  b__law_tr_others : L2.Binds K d__law_tr_others ["hat", "n", "q", "j"] []
  a__law_tr_below : Addr
  d__law_tr_below : FuncData
  F__law_tr_below : Fun K "_law_tr_below" "_law_tr_below" s__law_tr_below a__law_tr_below d__law_tr_below
  g__law_tr_below : mg "_law_tr_below" = some (.ref a__law_tr_below)
  b__law_tr_below : L2.Binds K d__law_tr_below ["doubling", "i", "j", "others", "tested", "index"] []
  a__law_tr_leaf : Addr
  d__law_tr_leaf : FuncData
  F__law_tr_leaf : Fun K "_law_tr_leaf" "_law_tr_leaf" s__law_tr_leaf a__law_tr_leaf d__law_tr_leaf
  g__law_tr_leaf : mg "_law_tr_leaf" = some (.ref a__law_tr_leaf)
  b__law_tr_leaf : L2.Binds K d__law_tr_leaf ["doubling", "t", "seed", "x"] []
  a__law_tr_met : Addr
  d__law_tr_met : FuncData
  F__law_tr_met : Fun K "_law_tr_met" "_law_tr_met" s__law_tr_met a__law_tr_met d__law_tr_met
  g__law_tr_met : mg "_law_tr_met" = some (.ref a__law_tr_met)
  b__law_tr_met : L2.Binds K d__law_tr_met ["doubling", "t", "asker", "i", "j", "others", "tested"] []
  a__law_tr_test : Addr
  d__law_tr_test : FuncData
  F__law_tr_test : Fun K "_law_tr_test" "_law_tr_test" s__law_tr_test a__law_tr_test d__law_tr_test
  g__law_tr_test : mg "_law_tr_test" = some (.ref a__law_tr_test)
  b__law_tr_test : L2.Binds K d__law_tr_test ["n", "doubling", "t", "asker", "i", "j", "others"] []
  a__law_right : Addr
  d__law_right : FuncData
  F__law_right : Fun K "_law_right" "_law_right" s__law_right a__law_right d__law_right
  g__law_right : mg "_law_right" = some (.ref a__law_right)
  b__law_right : L2.Binds K d__law_right ["hat"] []
  a_law : Addr
  d_law : FuncData
  F_law : Fun K "law" "law" s_law a_law d_law
  g_law : mg "law" = some (.ref a_law)
  b_law : L2.Binds K d_law ["script"] []
  z_abs : mg "abs" = none
  z_all : mg "all" = none
  z_bool : mg "bool" = none
  z_int : mg "int" = none
  z_isinstance : mg "isinstance" = none
  z_len : mg "len" = none
  z_max : mg "max" = none
  z_min : mg "min" = none
  z_range : mg "range" = none
  z_set : mg "set" = none
  z_sum : mg "sum" = none
  z_tuple : mg "tuple" = none
  i_gcd : mg "gcd" = some (.builtin "math.gcd")
  t_MOST_BITS : Tok
  k_MOST_BITS : mg "MOST_BITS" = some (.int 3 t_MOST_BITS)
  t_MOST_LEVELS : Tok
  k_MOST_LEVELS : mg "MOST_LEVELS" = some (.int 4 t_MOST_LEVELS)
  t_MOST_QUESTIONS : Tok
  k_MOST_QUESTIONS : mg "MOST_QUESTIONS" = some (.int 3 t_MOST_QUESTIONS)
  t_PAIR : Tok
  k_PAIR : mg "PAIR" = some (.int 2 t_PAIR)
section
variable {P : Program} {w : World} {K : PySem.W.Frag} {mg : Str → Option Value} {base : Heap} {G : Gb}
theorem sc__law_fr_hat : FnScope ["script", "spot", "cell", "great", "seed"] ["script", "spot"] (defScope s__law_fr_hat) := ⟨rfl, rfl, rfl, by decide +kernel, rfl, by decide +kernel, by decide +kernel⟩
theorem ok__law_fr_hat (T : Txt K mg) : FnOk P w K mg base (L2.CX P w) 1 T.a__law_fr_hat T.d__law_fr_hat ["script", "spot"] (spOfN K G m_law_fr_hat) := by
  refine fn_okN (N := ["script", "spot", "cell", "great", "seed"]) T.F__law_fr_hat sc__law_fr_hat fun A E cdv Ar outer s H hr => ?_
  have tk : Takes (cxOf (L2.CX P w) P w K mg base ["script", "spot", "cell", "great", "seed"] "_law_fr_hat" (defScope s__law_fr_hat) T.a__law_fr_hat cdv Ar outer s H E) (fun cls d _ H => E cls d H) := takes_of rfl rfl rfl rfl
  have nd := sc__law_fr_hat.nd
  exact (qN_cons (s_set 2 nd (r_if (rt_cmp op_lt b_lt bools_lt (r_var 1) (r_lenO 0 T.z_len (pv 0)) (nomark _)) (r_callT1 call_int1 u_int T.z_int (by decide +kernel) (r_ixS 0 (pv 0) (r_var 1))) (r_bin op_addA b_add (r_bin op_mulA b_mul r_int (r_var 1)) r_int)))
    (qN_cons (s_set 3 nd (r_bin op_mod b_mod (r_callT1 call_int1 u_int T.z_int (by decide +kernel) (r_call1 call_abs u_abs T.z_abs (by decide +kernel) (r_var 2))) (r_bin op_powW b_pow (r_bin op_powW b_pow r_int r_int) r_int)))
    (qN_cons (s_set 4 nd (r_callT1 call_int1 u_int T.z_int (by decide +kernel) (r_bin op_addA b_add (r_bin op_addA b_add (r_bin op_addA b_add (r_bin op_mulA b_mul (r_bin op_mod b_mod (r_var 3) r_int) r_int) (r_bin op_mulA b_mul r_int (r_var 1))) (r_bin op_mulA b_mul r_int (r_callT1 call_int1 u_int T.z_int (by decide +kernel) (r_cmp op_lt b_lt (r_var 2) r_int (nomark _))))) r_int)))
    (qN_one (sN_ret (ra_cons (r_call2 (call_max2 rfl) b_max2 T.z_max (by decide +kernel) r_int (r_bin op_subA b_sub (r_var 3) (r_bin op_powW b_pow r_int r_int))) (ra_cons (r_bin op_mod b_mod (r_var 4) r_int) (ra_cons r_int ra_nil))))))))
theorem sc_is_whole : FnScope ["value"] ["value"] (defScope s_is_whole) := ⟨rfl, rfl, rfl, by decide +kernel, rfl, by decide +kernel, by decide +kernel⟩
theorem ok_is_whole (T : Txt K mg) : FnOk P w K mg base (L2.CX P w) 1 T.a_is_whole T.d_is_whole ["value"] (spOf K G m_is_whole) := by
  refine fn_ok (N := ["value"]) T.F_is_whole sc_is_whole fun A E cdv Ar outer s H hr => ?_
  have tk : Takes (cxOf (L2.CX P w) P w K mg base ["value"] "is_whole" (defScope s_is_whole) T.a_is_whole cdv Ar outer s H E) (fun cls d _ H => E cls d H) := takes_of rfl rfl rfl rfl
  have nd := sc_is_whole.nd
  exact (q_one (s_ret (r_and (r_isi .int T.z_isinstance T.z_int (by decide +kernel) (r_var 0)) (r_one (r_not (r_isi .bool T.z_isinstance T.z_bool (by decide +kernel) (r_var 0)))))))
theorem sc_is_within : FnScope ["value", "least", "most"] ["value", "least", "most"] (defScope s_is_within) := ⟨rfl, rfl, rfl, by decide +kernel, rfl, by decide +kernel, by decide +kernel⟩
theorem ok_is_within (T : Txt K mg) : FnOk P w K mg base (L2.CX P w) 2 T.a_is_within T.d_is_within ["value", "least", "most"] (spOf K G m_is_within) := by
  refine fn_ok (N := ["value", "least", "most"]) T.F_is_within sc_is_within fun A E cdv Ar outer s H hr => ?_
  have tk : Takes (cxOf (L2.CX P w) P w K mg base ["value", "least", "most"] "is_within" (defScope s_is_within) T.a_is_within cdv Ar outer s H E) (fun cls d _ H => E cls d H) := takes_of rfl rfl rfl rfl
  have nd := sc_is_within.nd
  exact (q_one (s_ret (r_and (r_call (ok_is_whole T) (hr.mono (by first | decide | omega)) tk T.g_is_whole T.F_is_whole.kp T.b_is_whole (ra_cons (r_var 0) ra_nil)) (r_one (r_chain op_le op_le b_le b_le (r_var 1) (r_var 0) (r_var 2))))))
theorem sc_require_within : FnScope ["value", "least", "most"] ["value", "least", "most"] (defScope s_require_within) := ⟨rfl, rfl, rfl, by decide +kernel, rfl, by decide +kernel, by decide +kernel⟩
theorem ok_require_within (T : Txt K mg) : FnOk P w K mg base (L2.CX P w) 3 T.a_require_within T.d_require_within ["value", "least", "most"] (spOf K G m_require_within) := by
  refine fn_ok (N := ["value", "least", "most"]) T.F_require_within sc_require_within fun A E cdv Ar outer s H hr => ?_
  have tk : Takes (cxOf (L2.CX P w) P w K mg base ["value", "least", "most"] "require_within" (defScope s_require_within) T.a_require_within cdv Ar outer s H E) (fun cls d _ H => E cls d H) := takes_of rfl rfl rfl rfl
  have nd := sc_require_within.nd
  exact (q_one (s_if (rt_not (rt_tru (r_call (ok_is_within T) (hr.mono (by first | decide | omega)) tk T.g_is_within T.F_is_within.kp T.b_is_within (ra_cons (r_var 0) (ra_cons (r_var 1) (ra_cons (r_var 2) ra_nil)))))) (q_one s_never) q_nil))
theorem sc_is_pair_of_words : FnScope ["n", "value", "word"] ["n", "value"] (defScope s_is_pair_of_words) := ⟨rfl, rfl, rfl, by decide +kernel, rfl, by decide +kernel, by decide +kernel⟩
theorem ok_is_pair_of_words (T : Txt K mg) : FnOk P w K mg base (L2.CX P w) 3 T.a_is_pair_of_words T.d_is_pair_of_words ["n", "value"] (spOf K G m_is_pair_of_words) := by
  refine fn_ok (N := ["n", "value", "word"]) T.F_is_pair_of_words sc_is_pair_of_words fun A E cdv Ar outer s H hr => ?_
  have tk : Takes (cxOf (L2.CX P w) P w K mg base ["n", "value", "word"] "is_pair_of_words" (defScope s_is_pair_of_words) T.a_is_pair_of_words cdv Ar outer s H E) (fun cls d _ H => E cls d H) := takes_of rfl rfl rfl rfl
  have nd := sc_is_pair_of_words.nd
  have hu : (Ar.deeper (envOfC "is_pair_of_words" (defScope s_is_pair_of_words) s.heap.objs.size T.a_is_pair_of_words cdv)).units + 64 < cLine := hr.units
  exact (q_cons (s_if (PW.pt (rw_or (rt_not (rt_tru (r_isi .tuple T.z_isinstance T.z_tuple (by decide +kernel) (r_var 1)))) (rw_one_or (rt_cmp (op_neD hu) b_ne bools_ne (r_call1 call_len u_len T.z_len (by decide +kernel) (r_var 1)) (r_globI T.k_PAIR) (nomark _))))) (q_one (s_ret r_bl)) q_nil)
    (q_one (s_ret (r_call1 (cr_all rfl) u_all T.z_all (by decide +kernel) (r_comp [2] rfl nd (i_seq (r_var 1)) (blkOk_by (own := [("word", 2)]) (show blkC ["n", "value", "word"] (defScope s_is_pair_of_words) _ _ = true from by decide +kernel)) (fun _ _ _ _ _ _ => (g_name [2] 2 nd)) (fun _ _ _ _ _ _ => pts_yes) (fun _ _ _ _ _ _ => (r_call (ok_is_within T) (hr.mono (by first | decide | omega)) takes0 T.g_is_within T.F_is_within.kp T.b_is_within (ra_cons (r_var 2) (ra_cons r_int (ra_cons (r_bin op_subA b_sub (r_bin op_shlW b_shl r_int (r_var 0)) r_int) ra_nil))))))))))
theorem sc_require_doubling : FnScope ["n", "doubling", "pair"] ["n", "doubling"] (defScope s_require_doubling) := ⟨rfl, rfl, rfl, by decide +kernel, rfl, by decide +kernel, by decide +kernel⟩
theorem ok_require_doubling (T : Txt K mg) : FnOk P w K mg base (L2.CX P w) 4 T.a_require_doubling T.d_require_doubling ["n", "doubling"] (spOf K G m_require_doubling) := by
  refine fn_ok (N := ["n", "doubling", "pair"]) T.F_require_doubling sc_require_doubling fun A E cdv Ar outer s H hr => ?_
  have tk : Takes (cxOf (L2.CX P w) P w K mg base ["n", "doubling", "pair"] "require_doubling" (defScope s_require_doubling) T.a_require_doubling cdv Ar outer s H E) (fun cls d _ H => E cls d H) := takes_of rfl rfl rfl rfl
  have nd := sc_require_doubling.nd
  have hu : (Ar.deeper (envOfC "require_doubling" (defScope s_require_doubling) s.heap.objs.size T.a_require_doubling cdv)).units + 64 < cLine := hr.units
  exact (q_cons (s_expr (r_call (ok_require_within T) (hr.mono (by first | decide | omega)) tk T.g_require_within T.F_require_within.kp T.b_require_within (ra_cons (r_var 0) (ra_cons r_int (ra_cons (r_globI T.k_MOST_BITS) ra_nil)))))
    (q_cons (s_if (PW.pt (rw_or (rt_not (rt_tru (r_isi .tuple T.z_isinstance T.z_tuple (by decide +kernel) (r_var 1)))) (rw_one_or (rt_cmp (op_neD hu) b_ne bools_ne (r_call1 call_len u_len T.z_len (by decide +kernel) (r_var 1)) (r_bin op_shlW b_shl r_int (r_var 0)) (nomark _))))) (q_one s_never) q_nil)
    (q_one (s_if (rt_not (rt_tru (r_call1 (cr_all rfl) u_all T.z_all (by decide +kernel) (r_comp [2] rfl nd (i_seq (r_var 1)) (blkOk_by (own := [("pair", 2)]) (show blkC ["n", "doubling", "pair"] (defScope s_require_doubling) _ _ = true from by decide +kernel)) (fun _ _ _ _ _ _ => (g_name [2] 2 nd)) (fun _ _ _ _ _ _ => pts_yes) (fun _ _ _ _ _ _ => (r_call (ok_is_pair_of_words T) (hr.mono (by first | decide | omega)) takes0 T.g_is_pair_of_words T.F_is_pair_of_words.kp T.b_is_pair_of_words (ra_cons (r_var 0) (ra_cons (r_var 2) ra_nil)))))))) (q_one s_never) q_nil))))
theorem sc_is_bit : FnScope ["value"] ["value"] (defScope s_is_bit) := ⟨rfl, rfl, rfl, by decide +kernel, rfl, by decide +kernel, by decide +kernel⟩
theorem ok_is_bit (T : Txt K mg) : FnOk P w K mg base (L2.CX P w) 3 T.a_is_bit T.d_is_bit ["value"] (spOf K G m_is_bit) := by
  refine fn_ok (N := ["value"]) T.F_is_bit sc_is_bit fun A E cdv Ar outer s H hr => ?_
  have tk : Takes (cxOf (L2.CX P w) P w K mg base ["value"] "is_bit" (defScope s_is_bit) T.a_is_bit cdv Ar outer s H E) (fun cls d _ H => E cls d H) := takes_of rfl rfl rfl rfl
  have nd := sc_is_bit.nd
  exact (q_one (s_ret (r_call (ok_is_within T) (hr.mono (by first | decide | omega)) tk T.g_is_within T.F_is_within.kp T.b_is_within (ra_cons (r_var 0) (ra_cons r_int (ra_cons r_int ra_nil))))))
theorem sc_is_asker_in : FnScope ["n", "t", "value", "left", "branch"] ["n", "t", "value", "left"] (defScope s_is_asker_in) := ⟨rfl, rfl, rfl, by decide +kernel, rfl, by decide +kernel, by decide +kernel⟩
theorem ok_is_asker_in (T : Txt K mg) : ∀ n : Nat, FnOk P w K mg base (L2.CX P w) (4 + n) T.a_is_asker_in T.d_is_asker_in ["n", "t", "value", "left"] (spOf K G (m_is_asker_in n))
  | 0 => fn_stuck _
  | n + 1 => by
    have ih := ok_is_asker_in T n
    refine fn_ok (N := ["n", "t", "value", "left", "branch"]) T.F_is_asker_in sc_is_asker_in fun A E cdv Ar outer s H hr => ?_
    replace hr : Room (4 + n) _ := hr
    have tk : Takes (cxOf (L2.CX P w) P w K mg base ["n", "t", "value", "left", "branch"] "is_asker_in" (defScope s_is_asker_in) T.a_is_asker_in cdv Ar outer s H E) (fun cls d _ H => E cls d H) := takes_of rfl rfl rfl rfl
    have nd := sc_is_asker_in.nd
    have hu : (Ar.deeper (envOfC "is_asker_in" (defScope s_is_asker_in) s.heap.objs.size T.a_is_asker_in cdv)).units + 64 < cLine := hr.units
    exact (q_cons (s_if (rt_tru (r_call (ok_is_bit T) (hr.mono (by first | decide | omega)) tk T.g_is_bit T.F_is_bit.kp T.b_is_bit (ra_cons (r_var 2) ra_nil))) (q_one (s_ret r_bl)) q_nil)
    (q_cons (s_if (PW.pt (rw_or (rt_not (rt_tru (r_isi .tuple T.z_isinstance T.z_tuple (by decide +kernel) (r_var 2)))) (rw_or (rt_cmp (op_neD hu) b_ne bools_ne (r_call1 call_len u_len T.z_len (by decide +kernel) (r_var 2)) (r_globI T.k_PAIR) (nomark _)) (rw_or (rt_cmp (op_eqD hu) b_eq bools_eq (r_var 3) r_int (nomark _)) (rw_one_or (rt_not (rt_tru (r_call (ok_is_within T) (hr.mono (by first | decide | omega)) tk T.g_is_within T.F_is_within.kp T.b_is_within (ra_cons (r_ix (r_var 2) r_int) (ra_cons r_int (ra_cons (r_bin op_subA b_sub (r_bin op_shlW b_shl r_int (r_var 1)) r_int) ra_nil))))))))))) (q_one (s_ret r_bl)) q_nil)
    (q_cons (s_if (PW.pt (rw_or (rt_not (rt_tru (r_isi .tuple T.z_isinstance T.z_tuple (by decide +kernel) (r_ix (r_var 2) r_int)))) (rw_one_or (rt_cmp (op_neD hu) b_ne bools_ne (r_call1 call_len u_len T.z_len (by decide +kernel) (r_ix (r_var 2) r_int)) (r_bin op_shlW b_shl r_int (r_var 0)) (nomark _))))) (q_one (s_ret r_bl)) q_nil)
    (q_one (s_ret (r_call1 (cr_all rfl) u_all T.z_all (by decide +kernel) (r_comp [4] rfl nd (i_seq (r_ix (r_var 2) r_int)) (blkOk_by (own := [("branch", 4)]) (show blkC ["n", "t", "value", "left", "branch"] (defScope s_is_asker_in) _ _ = true from by decide +kernel)) (fun _ _ _ _ _ _ => (g_name [4] 4 nd)) (fun _ _ _ _ _ _ => pts_yes) (fun _ _ _ _ _ _ => (r_call ih (hr.mono (by first | decide | omega)) takes0 T.g_is_asker_in T.F_is_asker_in.kp T.b_is_asker_in (ra_cons (r_var 0) (ra_cons (r_var 1) (ra_cons (r_var 4) (ra_cons (r_bin op_subA b_sub (r_var 3) r_int) ra_nil)))))))))))))
theorem sc_require_asker : FnScope ["n", "t", "asker"] ["n", "t", "asker"] (defScope s_require_asker) := ⟨rfl, rfl, rfl, by decide +kernel, rfl, by decide +kernel, by decide +kernel⟩
theorem ok_require_asker (T : Txt K mg) : FnOk P w K mg base (L2.CX P w) 10 T.a_require_asker T.d_require_asker ["n", "t", "asker"] (spOf K G m_require_asker) := by
  refine fn_ok (N := ["n", "t", "asker"]) T.F_require_asker sc_require_asker fun A E cdv Ar outer s H hr => ?_
  have tk : Takes (cxOf (L2.CX P w) P w K mg base ["n", "t", "asker"] "require_asker" (defScope s_require_asker) T.a_require_asker cdv Ar outer s H E) (fun cls d _ H => E cls d H) := takes_of rfl rfl rfl rfl
  have nd := sc_require_asker.nd
  exact (q_one (s_if (rt_not (rt_tru (r_call (ok_is_asker_in T 5) (hr.mono (by first | decide | omega)) tk T.g_is_asker_in T.F_is_asker_in.kp T.b_is_asker_in (ra_cons (r_var 0) (ra_cons (r_var 1) (ra_cons (r_var 2) (ra_cons (r_globI T.k_MOST_QUESTIONS) ra_nil))))))) (q_one s_never) q_nil))
theorem sc_require_all : FnScope ["n", "doubling", "t", "asker"] ["n", "doubling", "t", "asker"] (defScope s_require_all) := ⟨rfl, rfl, rfl, by decide +kernel, rfl, by decide +kernel, by decide +kernel⟩
theorem ok_require_all (T : Txt K mg) : FnOk P w K mg base (L2.CX P w) 11 T.a_require_all T.d_require_all ["n", "doubling", "t", "asker"] (spOf K G m_require_all) := by
  refine fn_ok (N := ["n", "doubling", "t", "asker"]) T.F_require_all sc_require_all fun A E cdv Ar outer s H hr => ?_
  have tk : Takes (cxOf (L2.CX P w) P w K mg base ["n", "doubling", "t", "asker"] "require_all" (defScope s_require_all) T.a_require_all cdv Ar outer s H E) (fun cls d _ H => E cls d H) := takes_of rfl rfl rfl rfl
  have nd := sc_require_all.nd
  exact (q_cons (s_expr (r_call (ok_require_doubling T) (hr.mono (by first | decide | omega)) tk T.g_require_doubling T.F_require_doubling.kp T.b_require_doubling (ra_cons (r_var 0) (ra_cons (r_var 1) ra_nil))))
    (q_cons (s_expr (r_call (ok_require_within T) (hr.mono (by first | decide | omega)) tk T.g_require_within T.F_require_within.kp T.b_require_within (ra_cons (r_var 2) (ra_cons r_int (ra_cons (r_globI T.k_MOST_LEVELS) ra_nil)))))
    (q_one (s_expr (r_call (ok_require_asker T) (hr.mono (by first | decide | omega)) tk T.g_require_asker T.F_require_asker.kp T.b_require_asker (ra_cons (r_var 0) (ra_cons (r_var 2) (ra_cons (r_var 3) ra_nil))))))))
theorem sc_questions_in : FnScope ["asker", "branch"] ["asker"] (defScope s_questions_in) := ⟨rfl, rfl, rfl, by decide +kernel, rfl, by decide +kernel, by decide +kernel⟩
theorem ok_questions_in (T : Txt K mg) : ∀ n : Nat, FnOk P w K mg base (L2.CX P w) (4 + n) T.a_questions_in T.d_questions_in ["asker"] (spOf K G (m_questions_in n))
  | 0 => fn_stuck _
  | n + 1 => by
    have ih := ok_questions_in T n
    refine fn_ok (N := ["asker", "branch"]) T.F_questions_in sc_questions_in fun A E cdv Ar outer s H hr => ?_
    replace hr : Room (4 + n) _ := hr
    have tk : Takes (cxOf (L2.CX P w) P w K mg base ["asker", "branch"] "questions_in" (defScope s_questions_in) T.a_questions_in cdv Ar outer s H E) (fun cls d _ H => E cls d H) := takes_of rfl rfl rfl rfl
    have nd := sc_questions_in.nd
    exact (q_one (s_ret (r_if (rt_tru (r_call (ok_is_bit T) (hr.mono (by first | decide | omega)) tk T.g_is_bit T.F_is_bit.kp T.b_is_bit (ra_cons (r_var 0) ra_nil))) r_int (r_bin op_addA b_add r_int (r_call1 (cr_max rfl) u_max T.z_max (by decide +kernel) (r_comp [1] rfl nd (i_seq (r_ix (r_var 0) r_int)) (blkOk_by (own := [("branch", 1)]) (show blkC ["asker", "branch"] (defScope s_questions_in) _ _ = true from by decide +kernel)) (fun _ _ _ _ _ _ => (g_name [1] 1 nd)) (fun _ _ _ _ _ _ => pts_yes) (fun _ _ _ _ _ _ => (r_call ih (hr.mono (by first | decide | omega)) takes0 T.g_questions_in T.F_questions_in.kp T.b_questions_in (ra_cons (r_var 1) ra_nil)))))))))
theorem sc_require_indices : FnScope ["t", "asker", "i", "j"] ["t", "asker", "i", "j"] (defScope s_require_indices) := ⟨rfl, rfl, rfl, by decide +kernel, rfl, by decide +kernel, by decide +kernel⟩
theorem ok_require_indices (T : Txt K mg) : FnOk P w K mg base (L2.CX P w) 10 T.a_require_indices T.d_require_indices ["t", "asker", "i", "j"] (spOf K G m_require_indices) := by
  refine fn_ok (N := ["t", "asker", "i", "j"]) T.F_require_indices sc_require_indices fun A E cdv Ar outer s H hr => ?_
  have tk : Takes (cxOf (L2.CX P w) P w K mg base ["t", "asker", "i", "j"] "require_indices" (defScope s_require_indices) T.a_require_indices cdv Ar outer s H E) (fun cls d _ H => E cls d H) := takes_of rfl rfl rfl rfl
  have nd := sc_require_indices.nd
  exact (q_cons (s_expr (r_call (ok_require_within T) (hr.mono (by first | decide | omega)) tk T.g_require_within T.F_require_within.kp T.b_require_within (ra_cons (r_var 2) (ra_cons r_int (ra_cons (r_bin op_subA b_sub (r_var 0) r_int) ra_nil)))))
    (q_one (s_expr (r_call (ok_require_within T) (hr.mono (by first | decide | omega)) tk T.g_require_within T.F_require_within.kp T.b_require_within (ra_cons (r_var 3) (ra_cons r_int (ra_cons (r_bin op_subA b_sub (r_call (ok_questions_in T 5) (hr.mono (by first | decide | omega)) tk T.g_questions_in T.F_questions_in.kp T.b_questions_in (ra_cons (r_var 1) ra_nil)) r_int) ra_nil)))))))
theorem sc_below_in : FnScope ["doubling", "hybrid", "tested", "index", "i", "j", "others"] ["doubling", "hybrid", "tested", "index"] (defScope s_below_in) := ⟨rfl, rfl, rfl, by decide +kernel, rfl, by decide +kernel, by decide +kernel⟩
theorem ok_below_in (T : Txt K mg) : FnOk P w K mg base (L2.CX P w) 1 T.a_below_in T.d_below_in ["doubling", "hybrid", "tested", "index"] (spOf K G m_below_in) := by
  refine fn_ok (N := ["doubling", "hybrid", "tested", "index", "i", "j", "others"]) T.F_below_in sc_below_in fun A E cdv Ar outer s H hr => ?_
  have tk : Takes (cxOf (L2.CX P w) P w K mg base ["doubling", "hybrid", "tested", "index", "i", "j", "others"] "below_in" (defScope s_below_in) T.a_below_in cdv Ar outer s H E) (fun cls d _ H => E cls d H) := takes_of rfl rfl rfl rfl
  have nd := sc_below_in.nd
  have hu : (Ar.deeper (envOfC "below_in" (defScope s_below_in) s.heap.objs.size T.a_below_in cdv)).units + 64 < cLine := hr.units
  exact (q_cons (s_asg (r_var 1) (g_tup rfl (gs_cons (g_name [4, 5, 6] 4 nd) (gs_cons (g_name [4, 5, 6] 5 nd) (gs_cons (g_name [4, 5, 6] 6 nd) gs_nil)))))
    (q_cons (s_if (rt_cmp (op_eqD hu) b_eq bools_eq (r_var 3) (r_var 5) (nomark _)) (q_one (s_ret (r_var 2))) q_nil)
    (q_one (s_ret (r_if (rt_cmp op_lt b_lt bools_lt (r_var 3) (r_var 5) (nomark _)) (r_ix (r_var 6) (r_var 3)) (r_ix (r_var 0) (r_ix (r_var 6) (r_var 3))))))))
theorem sc_led_down : FnScope ["doubling", "word", "x", "begin", "t", "level"] ["doubling", "word", "x", "begin", "t"] (defScope s_led_down) := ⟨rfl, rfl, rfl, by decide +kernel, rfl, by decide +kernel, by decide +kernel⟩
theorem ok_led_down (T : Txt K mg) : FnOk P w K mg base (L2.CX P w) 1 T.a_led_down T.d_led_down ["doubling", "word", "x", "begin", "t"] (spOf K G m_led_down) := by
  refine fn_ok (N := ["doubling", "word", "x", "begin", "t", "level"]) T.F_led_down sc_led_down fun A E cdv Ar outer s H hr => ?_
  have tk : Takes (cxOf (L2.CX P w) P w K mg base ["doubling", "word", "x", "begin", "t", "level"] "led_down" (defScope s_led_down) T.a_led_down cdv Ar outer s H E) (fun cls d _ H => E cls d H) := takes_of rfl rfl rfl rfl
  have nd := sc_led_down.nd
  exact (q_cons (s_for (passes_of rfl) rfl (i_range2 T.z_range (r_var 3) (r_var 4)) (g_name [5] 5 nd) (q_one (s_set 1 nd (r_ix (r_ix (r_var 0) (r_var 1)) (r_bin op_and b_band (r_bin op_shr b_shr (r_var 2) (r_var 5)) r_int)))))
    (q_one (s_ret (r_var 1))))
theorem sc_end_below : FnScope ["doubling", "t", "asker", "hybrid", "tested", "seen", "level", "x", "index", "pair"] ["doubling", "t", "asker", "hybrid", "tested"] (defScope s_end_below) := ⟨rfl, rfl, rfl, by decide +kernel, rfl, by decide +kernel, by decide +kernel⟩
theorem ok_end_below (T : Txt K mg) : FnOk P w K mg base (L2.CX P w) 4 T.a_end_below T.d_end_below ["doubling", "t", "asker", "hybrid", "tested"] (spOf K G m_end_below) := by
  refine fn_ok (N := ["doubling", "t", "asker", "hybrid", "tested", "seen", "level", "x", "index", "pair"]) T.F_end_below sc_end_below fun A E cdv Ar outer s H hr => ?_
  have tk : Takes (cxOf (L2.CX P w) P w K mg base ["doubling", "t", "asker", "hybrid", "tested", "seen", "level", "x", "index", "pair"] "end_below" (defScope s_end_below) T.a_end_below cdv Ar outer s H E) (fun cls d _ H => E cls d H) := takes_of rfl rfl rfl rfl
  have nd := sc_end_below.nd
  exact (q_cons (s_parD 5 6 rfl nd (pu_ix (pu_var 3) pu_int))
    (q_cons (s_while 5 (passes_of rfl) (rt_not (rt_tru (r_call (ok_is_bit T) (hr.mono (by first | decide | omega)) tk T.g_is_bit T.F_is_bit.kp T.b_is_bit (ra_cons (r_var 2) ra_nil)))) (q_cons (s_set 7 nd (r_ix (r_var 2) r_int))
    (q_cons (s_set 8 nd (r_setd 5 (pv 5) (r_bin op_and b_band (r_var 7) (r_bin op_subA b_sub (r_bin op_shlW b_shl r_int (r_var 6)) r_int)) (r_lenOD 5 T.z_len (pv 5)) ⟨rfl, rfl, rfl, rfl⟩))
    (q_cons (s_set 9 nd (r_call (ok_below_in T) (hr.mono (by first | decide | omega)) tk T.g_below_in T.F_below_in.kp T.b_below_in (ra_cons (r_var 0) (ra_cons (r_var 3) (ra_cons (r_var 4) (ra_cons (r_var 8) ra_nil))))))
    (q_one (s_set 2 nd (r_ix (r_ix (r_var 2) r_int) (r_call (ok_led_down T) (hr.mono (by first | decide | omega)) tk T.g_led_down T.F_led_down.kp T.b_led_down (ra_cons (r_var 0) (ra_cons (r_ix (r_var 9) (r_bin op_and b_band (r_bin op_shr b_shr (r_var 7) (r_var 6)) r_int)) (ra_cons (r_var 7) (ra_cons (r_bin op_addA b_add (r_var 6) r_int) (ra_cons (r_var 1) ra_nil)))))))))))))
    (q_one (s_ret (r_var 2)))))
theorem sc_test_in : FnScope ["n", "doubling", "t", "asker", "hybrid", "pairs", "number", "tested"] ["n", "doubling", "t", "asker", "hybrid"] (defScope s_test_in) := ⟨rfl, rfl, rfl, by decide +kernel, rfl, by decide +kernel, by decide +kernel⟩
theorem ok_test_in (T : Txt K mg) : FnOk P w K mg base (L2.CX P w) 5 T.a_test_in T.d_test_in ["n", "doubling", "t", "asker", "hybrid"] (spOf K G m_test_in) := by
  refine fn_ok (N := ["n", "doubling", "t", "asker", "hybrid", "pairs", "number", "tested"]) T.F_test_in sc_test_in fun A E cdv Ar outer s H hr => ?_
  have tk : Takes (cxOf (L2.CX P w) P w K mg base ["n", "doubling", "t", "asker", "hybrid", "pairs", "number", "tested"] "test_in" (defScope s_test_in) T.a_test_in cdv Ar outer s H E) (fun cls d _ H => E cls d H) := takes_of rfl rfl rfl rfl
  have nd := sc_test_in.nd
  exact (q_cons (s_setLc 5 [6] rfl nd (i_range1 T.z_range (r_bin op_shlW b_shl r_int (r_bin op_mulA b_mul (r_globI T.k_PAIR) (r_var 0)))) (blkOk_by (own := [("number", 6)]) (show blkC ["n", "doubling", "t", "asker", "hybrid", "pairs", "number", "tested"] (defScope s_test_in) _ _ = true from by decide +kernel)) (fun _ _ _ _ _ _ => (g_name [6] 6 nd)) (fun _ _ _ _ _ _ => pts_yes) (fun _ _ _ _ _ _ => (r_tup (ra_cons (r_bin op_and b_band (r_var 6) (r_bin op_subA b_sub (r_bin op_shlW b_shl r_int (r_var 0)) r_int)) (ra_cons (r_bin op_shr b_shr (r_var 6) (r_var 0)) ra_nil)))) (sw_true rfl rfl rfl (by decide +kernel)))
    (q_one (s_ret (r_tuple T.z_tuple (r_comp [7] rfl nd (i_seq (r_var 5)) (blkOk_by (own := [("tested", 7)]) (show blkC ["n", "doubling", "t", "asker", "hybrid", "pairs", "number", "tested"] (defScope s_test_in) _ _ = true from by decide +kernel)) (fun _ _ _ _ _ _ => (g_name [7] 7 nd)) (fun _ _ _ _ _ _ => pts_yes) (fun _ _ _ _ _ _ => (r_call (ok_end_below T) (hr.mono (by first | decide | omega)) takes0 T.g_end_below T.F_end_below.kp T.b_end_below (ra_cons (r_var 1) (ra_cons (r_var 2) (ra_cons (r_var 3) (ra_cons (r_var 4) (ra_cons (r_var 7) ra_nil))))))))))))
theorem sc_are_others : FnScope ["n", "q", "j", "value", "pair", "word"] ["n", "q", "j", "value"] (defScope s_are_others) := ⟨rfl, rfl, rfl, by decide +kernel, rfl, by decide +kernel, by decide +kernel⟩
theorem ok_are_others (T : Txt K mg) : FnOk P w K mg base (L2.CX P w) 4 T.a_are_others T.d_are_others ["n", "q", "j", "value"] (spOf K G m_are_others) := by
  refine fn_ok (N := ["n", "q", "j", "value", "pair", "word"]) T.F_are_others sc_are_others fun A E cdv Ar outer s H hr => ?_
  have tk : Takes (cxOf (L2.CX P w) P w K mg base ["n", "q", "j", "value", "pair", "word"] "are_others" (defScope s_are_others) T.a_are_others cdv Ar outer s H E) (fun cls d _ H => E cls d H) := takes_of rfl rfl rfl rfl
  have nd := sc_are_others.nd
  have hu : (Ar.deeper (envOfC "are_others" (defScope s_are_others) s.heap.objs.size T.a_are_others cdv)).units + 64 < cLine := hr.units
  exact (q_cons (s_if (PW.pt (rw_or (rt_not (rt_tru (r_isi .tuple T.z_isinstance T.z_tuple (by decide +kernel) (r_var 3)))) (rw_or (rt_cmp (op_neD hu) b_ne bools_ne (r_call1 call_len u_len T.z_len (by decide +kernel) (r_var 3)) (r_var 1) (nomark _)) (rw_one_or (rt_cmp op_notN b_isnot bools_isnot (r_ix (r_var 3) (r_var 2)) r_non (nomark _)))))) (q_one (s_ret r_bl)) q_nil)
    (q_cons (s_if (rt_not (rt_tru (r_call1 (cr_all rfl) u_all T.z_all (by decide +kernel) (r_comp [4] rfl nd (i_seq (r_slice (r_var 3) p_none (p_some (r_var 2)))) (blkOk_by (own := [("pair", 4)]) (show blkC ["n", "q", "j", "value", "pair", "word"] (defScope s_are_others) _ _ = true from by decide +kernel)) (fun _ _ _ _ _ _ => (g_name [4] 4 nd)) (fun _ _ _ _ _ _ => pts_yes) (fun _ _ _ _ _ _ => (r_call (ok_is_pair_of_words T) (hr.mono (by first | decide | omega)) takes0 T.g_is_pair_of_words T.F_is_pair_of_words.kp T.b_is_pair_of_words (ra_cons (r_var 0) (ra_cons (r_var 4) ra_nil)))))))) (q_one (s_ret r_bl)) q_nil)
    (q_one (s_ret (r_call1 (cr_all rfl) u_all T.z_all (by decide +kernel) (r_comp [5] rfl nd (i_seq (r_slice (r_var 3) (p_some (r_bin op_addA b_add (r_var 2) r_int)) p_none)) (blkOk_by (own := [("word", 5)]) (show blkC ["n", "q", "j", "value", "pair", "word"] (defScope s_are_others) _ _ = true from by decide +kernel)) (fun _ _ _ _ _ _ => (g_name [5] 5 nd)) (fun _ _ _ _ _ _ => pts_yes) (fun _ _ _ _ _ _ => (r_call (ok_is_within T) (hr.mono (by first | decide | omega)) takes0 T.g_is_within T.F_is_within.kp T.b_is_within (ra_cons (r_var 5) (ra_cons r_int (ra_cons (r_bin op_subA b_sub (r_bin op_shlW b_shl r_int (r_var 0)) r_int) ra_nil)))))))))))
theorem sc_made_test : FnScope ["n", "doubling", "t", "asker", "i", "j", "others"] ["n", "doubling", "t", "asker", "i", "j", "others"] (defScope s_made_test) := ⟨rfl, rfl, rfl, by decide +kernel, rfl, by decide +kernel, by decide +kernel⟩
theorem ok_made_test (T : Txt K mg) : FnOk P w K mg base (L2.CX P w) 12 T.a_made_test T.d_made_test ["n", "doubling", "t", "asker", "i", "j", "others"] (spOf K G m_made_test) := by
  refine fn_ok (N := ["n", "doubling", "t", "asker", "i", "j", "others"]) T.F_made_test sc_made_test fun A E cdv Ar outer s H hr => ?_
  have tk : Takes (cxOf (L2.CX P w) P w K mg base ["n", "doubling", "t", "asker", "i", "j", "others"] "made_test" (defScope s_made_test) T.a_made_test cdv Ar outer s H E) (fun cls d _ H => E cls d H) := takes_of rfl rfl rfl rfl
  have nd := sc_made_test.nd
  exact (q_cons (s_expr (r_call (ok_require_all T) (hr.mono (by first | decide | omega)) tk T.g_require_all T.F_require_all.kp T.b_require_all (ra_cons (r_var 0) (ra_cons (r_var 1) (ra_cons (r_var 2) (ra_cons (r_var 3) ra_nil))))))
    (q_cons (s_expr (r_call (ok_require_indices T) (hr.mono (by first | decide | omega)) tk T.g_require_indices T.F_require_indices.kp T.b_require_indices (ra_cons (r_var 2) (ra_cons (r_var 3) (ra_cons (r_var 4) (ra_cons (r_var 5) ra_nil))))))
    (q_cons (s_if (rt_not (rt_tru (r_call (ok_are_others T) (hr.mono (by first | decide | omega)) tk T.g_are_others T.F_are_others.kp T.b_are_others (ra_cons (r_var 0) (ra_cons (r_call (ok_questions_in T 5) (hr.mono (by first | decide | omega)) tk T.g_questions_in T.F_questions_in.kp T.b_questions_in (ra_cons (r_var 3) ra_nil)) (ra_cons (r_var 5) (ra_cons (r_var 6) ra_nil))))))) (q_one s_never) q_nil)
    (q_one (s_ret (r_call (ok_test_in T) (hr.mono (by first | decide | omega)) tk T.g_test_in T.F_test_in.kp T.b_test_in (ra_cons (r_var 0) (ra_cons (r_var 1) (ra_cons (r_var 2) (ra_cons (r_var 3) (ra_cons (r_tup (ra_cons (r_var 4) (ra_cons (r_var 5) (ra_cons (r_var 6) ra_nil)))) ra_nil)))))))))))
theorem sc_fraction_in : FnScope ["top", "bottom", "shared"] ["top", "bottom"] (defScope s_fraction_in) := ⟨rfl, rfl, rfl, by decide +kernel, rfl, by decide +kernel, by decide +kernel⟩
theorem ok_fraction_in (T : Txt K mg) : FnOk P w K mg base (L2.CX P w) 1 T.a_fraction_in T.d_fraction_in ["top", "bottom"] (spOf K G m_fraction_in) := by
  refine fn_ok (N := ["top", "bottom", "shared"]) T.F_fraction_in sc_fraction_in fun A E cdv Ar outer s H hr => ?_
  have tk : Takes (cxOf (L2.CX P w) P w K mg base ["top", "bottom", "shared"] "fraction_in" (defScope s_fraction_in) T.a_fraction_in cdv Ar outer s H E) (fun cls d _ H => E cls d H) := takes_of rfl rfl rfl rfl
  have nd := sc_fraction_in.nd
  exact (q_cons (s_set 2 nd (r_if (rt_cmp op_gt b_gt bools_gt (r_var 1) r_int (nomark _)) (r_callM2 cr_gcd b_gcd T.i_gcd (r_var 0) (r_var 1)) (r_un un_neg u_neg (r_callM2 cr_gcd b_gcd T.i_gcd (r_var 0) (r_var 1)))))
    (q_one (s_ret (r_tup (ra_cons (r_bin op_divA b_div (r_var 0) (r_var 2)) (ra_cons (r_bin op_divA b_div (r_var 1) (r_var 2)) ra_nil))))))
theorem sc_are_bits : FnScope ["value", "many", "bit"] ["value", "many"] (defScope s_are_bits) := ⟨rfl, rfl, rfl, by decide +kernel, rfl, by decide +kernel, by decide +kernel⟩
theorem ok_are_bits (T : Txt K mg) : FnOk P w K mg base (L2.CX P w) 4 T.a_are_bits T.d_are_bits ["value", "many"] (spOf K G m_are_bits) := by
  refine fn_ok (N := ["value", "many", "bit"]) T.F_are_bits sc_are_bits fun A E cdv Ar outer s H hr => ?_
  have tk : Takes (cxOf (L2.CX P w) P w K mg base ["value", "many", "bit"] "are_bits" (defScope s_are_bits) T.a_are_bits cdv Ar outer s H E) (fun cls d _ H => E cls d H) := takes_of rfl rfl rfl rfl
  have nd := sc_are_bits.nd
  have hu : (Ar.deeper (envOfC "are_bits" (defScope s_are_bits) s.heap.objs.size T.a_are_bits cdv)).units + 64 < cLine := hr.units
  exact (q_one (s_ret (r_and (r_isi .tuple T.z_isinstance T.z_tuple (by decide +kernel) (r_var 0)) (r_and (r_cmp (op_eqD hu) b_eq (r_call1 call_len u_len T.z_len (by decide +kernel) (r_var 0)) (r_var 1) (nomark _)) (r_one (r_call1 (cr_all rfl) u_all T.z_all (by decide +kernel) (r_comp [2] rfl nd (i_seq (r_var 0)) (blkOk_by (own := [("bit", 2)]) (show blkC ["value", "many", "bit"] (defScope s_are_bits) _ _ = true from by decide +kernel)) (fun _ _ _ _ _ _ => (g_name [2] 2 nd)) (fun _ _ _ _ _ _ => pts_yes) (fun _ _ _ _ _ _ => (r_call (ok_is_bit T) (hr.mono (by first | decide | omega)) takes0 T.g_is_bit T.F_is_bit.kp T.b_is_bit (ra_cons (r_var 2) ra_nil))))))))))
theorem sc_pair_edge_tops : FnScope ["n", "doubling", "test", "met", "first", "second"] ["n", "doubling", "test"] (defScope s_pair_edge_tops) := ⟨rfl, rfl, rfl, by decide +kernel, rfl, by decide +kernel, by decide +kernel⟩
theorem ok_pair_edge_tops (T : Txt K mg) : FnOk P w K mg base (L2.CX P w) 1 T.a_pair_edge_tops T.d_pair_edge_tops ["n", "doubling", "test"] (spOf K G m_pair_edge_tops) := by
  refine fn_ok (N := ["n", "doubling", "test", "met", "first", "second"]) T.F_pair_edge_tops sc_pair_edge_tops fun A E cdv Ar outer s H hr => ?_
  have tk : Takes (cxOf (L2.CX P w) P w K mg base ["n", "doubling", "test", "met", "first", "second"] "pair_edge_tops" (defScope s_pair_edge_tops) T.a_pair_edge_tops cdv Ar outer s H E) (fun cls d _ H => E cls d H) := takes_of rfl rfl rfl rfl
  have nd := sc_pair_edge_tops.nd
  exact (q_cons (s_set 3 nd (r_call1 (cr_sumA rfl) u_sum T.z_sum (by decide +kernel) (r_comp [4, 5] rfl nd (i_seq (r_var 1)) (blkOk_by (own := [("first", 4), ("second", 5)]) (show blkC ["n", "doubling", "test", "met", "first", "second"] (defScope s_pair_edge_tops) _ _ = true from by decide +kernel)) (fun _ _ _ _ _ _ => (g_tup rfl (gs_cons (g_name [4, 5] 4 nd) (gs_cons (g_name [4, 5] 5 nd) gs_nil)))) (fun _ _ _ _ _ _ => pts_yes) (fun _ _ _ _ _ _ => (r_ix (r_var 2) (r_bin op_addA b_add (r_var 4) (r_bin op_shlW b_shl (r_var 5) (r_var 0))))))))
    (q_one (s_ret (r_bin op_subA b_sub (r_bin op_shlW b_shl (r_var 3) (r_var 0)) (r_call1 (cr_sumA rfl) u_sum T.z_sum (by decide +kernel) (r_var 2))))))
theorem sc_pair_edge : FnScope ["n", "doubling", "test"] ["n", "doubling", "test"] (defScope s_pair_edge) := ⟨rfl, rfl, rfl, by decide +kernel, rfl, by decide +kernel, by decide +kernel⟩
theorem ok_pair_edge (T : Txt K mg) : FnOk P w K mg base (L2.CX P w) 5 T.a_pair_edge T.d_pair_edge ["n", "doubling", "test"] (spOf K G m_pair_edge) := by
  refine fn_ok (N := ["n", "doubling", "test"]) T.F_pair_edge sc_pair_edge fun A E cdv Ar outer s H hr => ?_
  have tk : Takes (cxOf (L2.CX P w) P w K mg base ["n", "doubling", "test"] "pair_edge" (defScope s_pair_edge) T.a_pair_edge cdv Ar outer s H E) (fun cls d _ H => E cls d H) := takes_of rfl rfl rfl rfl
  have nd := sc_pair_edge.nd
  exact (q_cons (s_expr (r_call (ok_require_doubling T) (hr.mono (by first | decide | omega)) tk T.g_require_doubling T.F_require_doubling.kp T.b_require_doubling (ra_cons (r_var 0) (ra_cons (r_var 1) ra_nil))))
    (q_cons (s_if (rt_not (rt_tru (r_call (ok_are_bits T) (hr.mono (by first | decide | omega)) tk T.g_are_bits T.F_are_bits.kp T.b_are_bits (ra_cons (r_var 2) (ra_cons (r_bin op_shlW b_shl r_int (r_bin op_mulA b_mul (r_globI T.k_PAIR) (r_var 0))) ra_nil))))) (q_one s_never) q_nil)
    (q_one (s_ret (r_call (ok_fraction_in T) (hr.mono (by first | decide | omega)) tk T.g_fraction_in T.F_fraction_in.kp T.b_fraction_in (ra_cons (r_call (ok_pair_edge_tops T) (hr.mono (by first | decide | omega)) tk T.g_pair_edge_tops T.F_pair_edge_tops.kp T.b_pair_edge_tops (ra_cons (r_var 0) (ra_cons (r_var 1) (ra_cons (r_var 2) ra_nil)))) (ra_cons (r_bin op_shlW b_shl r_int (r_bin op_mulA b_mul (r_globI T.k_PAIR) (r_var 0))) ra_nil)))))))
theorem sc__law_fr_up : FnScope ["hat", "total", "found", "one", "two"] ["hat", "total"] (defScope s__law_fr_up) := ⟨rfl, rfl, rfl, by decide +kernel, rfl, by decide +kernel, by decide +kernel⟩
theorem ok__law_fr_up (T : Txt K mg) : FnOk P w K mg base (L2.CX P w) 1 T.a__law_fr_up T.d__law_fr_up ["hat", "total"] (spOf K G m_law_fr_up) := by
  refine fn_ok (N := ["hat", "total", "found", "one", "two"]) T.F__law_fr_up sc__law_fr_up fun A E cdv Ar outer s H hr => ?_
  have tk : Takes (cxOf (L2.CX P w) P w K mg base ["hat", "total", "found", "one", "two"] "_law_fr_up" (defScope s__law_fr_up) T.a__law_fr_up cdv Ar outer s H E) (fun cls d _ H => E cls d H) := takes_of rfl rfl rfl rfl
  have nd := sc__law_fr_up.nd
  exact (q_cons (s_if (rt_cmp op_gt b_gt bools_gt (r_ixO 0 (pv 0) r_int) r_int (nomark _)) (q_cons (s_set 2 nd (r_bin op_mod b_mod (r_callT1 call_int1 u_int T.z_int (by decide +kernel) (r_ixO 0 (pv 0) r_int)) (r_var 1)))
    (q_cons (s_put 0 (pv 0) r_int (r_bin op_divA b_div (r_ixO 0 (pv 0) r_int) (r_var 1)))
    (q_one (s_ret (r_var 2))))) q_nil)
    (q_cons (s_put 0 (pv 0) r_int (r_bin op_addA b_add (r_ixO 0 (pv 0) r_int) r_int))
    (q_cons (s_set 3 nd (r_bin op_mod b_mod (r_callT1 call_int1 u_int T.z_int (by decide +kernel) (r_bin op_addA b_add (r_ixO 0 (pv 0) r_int) (r_bin op_mulA b_mul r_int (r_ixO 0 (pv 0) r_int)))) r_int))
    (q_cons (s_set 4 nd (r_bin op_addA b_add (r_bin op_addA b_add (r_bin op_mulA b_mul (r_bin op_mod b_mod (r_callT1 call_int1 u_int T.z_int (by decide +kernel) (r_bin op_addA b_add (r_bin op_mulA b_mul (r_var 3) (r_var 3)) r_int)) r_int) r_int) (r_var 3)) (r_bin op_mulA b_mul r_int (r_ixO 0 (pv 0) r_int))))
    (q_one (s_ret (r_bin op_mod b_mod (r_callT1 call_int1 u_int T.z_int (by decide +kernel) (r_bin op_divA b_div (r_var 4) r_int)) (r_var 1))))))))
theorem sc__law_fr_of : FnScope ["hat", "items"] ["hat", "items"] (defScope s__law_fr_of) := ⟨rfl, rfl, rfl, by decide +kernel, rfl, by decide +kernel, by decide +kernel⟩
theorem ok__law_fr_of (T : Txt K mg) : FnOk P w K mg base (L2.CX P w) 2 T.a__law_fr_of T.d__law_fr_of ["hat", "items"] (spOf K G m_law_fr_of) := by
  refine fn_ok (N := ["hat", "items"]) T.F__law_fr_of sc__law_fr_of fun A E cdv Ar outer s H hr => ?_
  have tk : Takes (cxOf (L2.CX P w) P w K mg base ["hat", "items"] "_law_fr_of" (defScope s__law_fr_of) T.a__law_fr_of cdv Ar outer s H E) (fun cls d _ H => E cls d H) := takes_of rfl rfl rfl rfl
  have nd := sc__law_fr_of.nd
  exact (q_one (s_ret (r_ix (r_var 1) (r_callIO 0 (ok__law_fr_up T) (hr.mono (by first | decide | omega)) tk T.g__law_fr_up T.F__law_fr_up.kp T.b__law_fr_up (pv 0) (ra_cons (r_call1 call_len u_len T.z_len (by decide +kernel) (r_var 1)) ra_nil)))))
theorem sc__law_tr_doubling : FnScope ["hat", "n", "many", "found", "word", "pair"] ["hat", "n"] (defScope s__law_tr_doubling) := ⟨rfl, rfl, rfl, by decide +kernel, rfl, by decide +kernel, by decide +kernel⟩
theorem ok__law_tr_doubling (T : Txt K mg) : FnOk P w K mg base (L2.CX P w) 2 T.a__law_tr_doubling T.d__law_tr_doubling ["hat", "n"] (spOf K G m_law_tr_doubling) := by
  refine fn_ok (N := ["hat", "n", "many", "found", "word", "pair"]) T.F__law_tr_doubling sc__law_tr_doubling fun A E cdv Ar outer s H hr => ?_
  have tk : Takes (cxOf (L2.CX P w) P w K mg base ["hat", "n", "many", "found", "word", "pair"] "_law_tr_doubling" (defScope s__law_tr_doubling) T.a__law_tr_doubling cdv Ar outer s H E) (fun cls d _ H => E cls d H) := takes_of rfl rfl rfl rfl
  have nd := sc__law_tr_doubling.nd
  have hu : (Ar.deeper (envOfC "_law_tr_doubling" (defScope s__law_tr_doubling) s.heap.objs.size T.a__law_tr_doubling cdv)).units + 64 < cLine := hr.units
  exact (q_cons (s_set 2 nd (r_ix (r_lst (ra_cons r_int (ra_cons r_int (ra_cons r_int (ra_cons r_int ra_nil))))) (r_var 1)))
    (q_cons (s_set 3 nd (r_tuple T.z_tuple (r_comp [4] rfl nd (i_range1 T.z_range (r_var 2)) (blkOk_by (own := [("word", 4)]) (show blkC ["hat", "n", "many", "found", "word", "pair"] (defScope s__law_tr_doubling) _ _ = true from by decide +kernel)) (fun _ _ _ _ _ _ => (g_name [4] 4 nd)) (fun _ _ _ _ _ _ => pts_yes) (fun _ _ _ _ _ _ => (r_tup (ra_cons (r_callIO 0 (ok__law_fr_up T) (hr.mono (by first | decide | omega)) takes0 T.g__law_fr_up T.F__law_fr_up.kp T.b__law_fr_up (pv 0) (ra_cons (r_var 2) ra_nil)) (ra_cons (r_callIO 0 (ok__law_fr_up T) (hr.mono (by first | decide | omega)) takes0 T.g__law_fr_up T.F__law_fr_up.kp T.b__law_fr_up (pv 0) (ra_cons (r_var 2) ra_nil)) ra_nil)))))))
    (q_cons (s_if (rt_cmp (op_eqD hu) b_eq bools_eq (r_callIO 0 (ok__law_fr_up T) (hr.mono (by first | decide | omega)) tk T.g__law_fr_up T.F__law_fr_up.kp T.b__law_fr_up (pv 0) (ra_cons r_int ra_nil)) r_int (nomark _)) (q_one (s_set 3 nd (r_tuple T.z_tuple (r_comp [5] rfl nd (i_seq (r_var 3)) (blkOk_by (own := [("pair", 5)]) (show blkC ["hat", "n", "many", "found", "word", "pair"] (defScope s__law_tr_doubling) _ _ = true from by decide +kernel)) (fun _ _ _ _ _ _ => (g_name [5] 5 nd)) (fun _ _ _ _ _ _ => pts_yes) (fun _ _ _ _ _ _ => (r_tup (ra_cons (r_ix (r_var 5) r_int) (ra_cons (r_ix (r_var 5) r_int) ra_nil)))))))) q_nil)
    (q_one (s_ret (r_var 3))))))
theorem sc__law_tr_asker : FnScope ["hat", "n", "t", "left", "x", "word"] ["hat", "n", "t", "left"] (defScope s__law_tr_asker) := ⟨rfl, rfl, rfl, by decide +kernel, rfl, by decide +kernel, by decide +kernel⟩
theorem ok__law_tr_asker (T : Txt K mg) : ∀ n : Nat, FnOk P w K mg base (L2.CX P w) (2 + n) T.a__law_tr_asker T.d__law_tr_asker ["hat", "n", "t", "left"] (spOf K G (m_law_tr_asker n))
  | 0 => fn_stuck _
  | n + 1 => by
    have ih := ok__law_tr_asker T n
    refine fn_ok (N := ["hat", "n", "t", "left", "x", "word"]) T.F__law_tr_asker sc__law_tr_asker fun A E cdv Ar outer s H hr => ?_
    replace hr : Room (2 + n) _ := hr
    have tk : Takes (cxOf (L2.CX P w) P w K mg base ["hat", "n", "t", "left", "x", "word"] "_law_tr_asker" (defScope s__law_tr_asker) T.a__law_tr_asker cdv Ar outer s H E) (fun cls d _ H => E cls d H) := takes_of rfl rfl rfl rfl
    have nd := sc__law_tr_asker.nd
    have hu : (Ar.deeper (envOfC "_law_tr_asker" (defScope s__law_tr_asker) s.heap.objs.size T.a__law_tr_asker cdv)).units + 64 < cLine := hr.units
    exact (q_cons (s_if (PW.pt (rw_or (rt_cmp (op_eqD hu) b_eq bools_eq (r_var 3) r_int (nomark _)) (rw_one_or (rt_cmp (op_eqD hu) b_eq bools_eq (r_callIO 0 (ok__law_fr_up T) (hr.mono (by first | decide | omega)) tk T.g__law_fr_up T.F__law_fr_up.kp T.b__law_fr_up (pv 0) (ra_cons r_int ra_nil)) r_int (nomark _))))) (q_one (s_ret (r_callIO 0 (ok__law_fr_up T) (hr.mono (by first | decide | omega)) tk T.g__law_fr_up T.F__law_fr_up.kp T.b__law_fr_up (pv 0) (ra_cons r_int ra_nil)))) q_nil)
    (q_cons (s_set 4 nd (r_callIO 0 (ok__law_fr_up T) (hr.mono (by first | decide | omega)) tk T.g__law_fr_up T.F__law_fr_up.kp T.b__law_fr_up (pv 0) (ra_cons (r_ix (r_lst (ra_cons r_int (ra_cons r_int (ra_cons r_int (ra_cons r_int (ra_cons r_int ra_nil)))))) (r_var 2)) ra_nil)))
    (q_one (s_ret (r_tup (ra_cons (r_var 4) (ra_cons (r_tuple T.z_tuple (r_comp [5] rfl nd (i_range1 T.z_range (r_ix (r_lst (ra_cons r_int (ra_cons r_int (ra_cons r_int (ra_cons r_int ra_nil))))) (r_var 1))) (blkOk_by (own := [("word", 5)]) (show blkC ["hat", "n", "t", "left", "x", "word"] (defScope s__law_tr_asker) _ _ = true from by decide +kernel)) (fun _ _ _ _ _ _ => (g_name [5] 5 nd)) (fun _ _ _ _ _ _ => pts_yes) (fun _ _ _ _ _ _ => (r_callIO 0 ih (hr.mono (by first | decide | omega)) takes0 T.g__law_tr_asker T.F__law_tr_asker.kp T.b__law_tr_asker (pv 0) (ra_cons (r_var 1) (ra_cons (r_var 2) (ra_cons (r_bin op_subA b_sub (r_var 3) r_int) ra_nil))))))) ra_nil)))))))
theorem sc__law_fr_bits : FnScope ["hat", "many", "at"] ["hat", "many"] (defScope s__law_fr_bits) := ⟨rfl, rfl, rfl, by decide +kernel, rfl, by decide +kernel, by decide +kernel⟩
theorem ok__law_fr_bits (T : Txt K mg) : FnOk P w K mg base (L2.CX P w) 2 T.a__law_fr_bits T.d__law_fr_bits ["hat", "many"] (spOf K G m_law_fr_bits) := by
  refine fn_ok (N := ["hat", "many", "at"]) T.F__law_fr_bits sc__law_fr_bits fun A E cdv Ar outer s H hr => ?_
  have tk : Takes (cxOf (L2.CX P w) P w K mg base ["hat", "many", "at"] "_law_fr_bits" (defScope s__law_fr_bits) T.a__law_fr_bits cdv Ar outer s H E) (fun cls d _ H => E cls d H) := takes_of rfl rfl rfl rfl
  have nd := sc__law_fr_bits.nd
  exact (q_one (s_ret (r_tuple T.z_tuple (r_comp [2] rfl nd (i_range1 T.z_range (r_var 1)) (blkOk_by (own := [("at", 2)]) (show blkC ["hat", "many", "at"] (defScope s__law_fr_bits) _ _ = true from by decide +kernel)) (fun _ _ _ _ _ _ => (g_name [2] 2 nd)) (fun _ _ _ _ _ _ => pts_yes) (fun _ _ _ _ _ _ => (r_callIO 0 (ok__law_fr_up T) (hr.mono (by first | decide | omega)) takes0 T.g__law_fr_up T.F__law_fr_up.kp T.b__law_fr_up (pv 0) (ra_cons r_int ra_nil)))))))
theorem sc_questions : FnScope ["n", "t", "asker"] ["n", "t", "asker"] (defScope s_questions) := ⟨rfl, rfl, rfl, by decide +kernel, rfl, by decide +kernel, by decide +kernel⟩
theorem ok_questions (T : Txt K mg) : FnOk P w K mg base (L2.CX P w) 11 T.a_questions T.d_questions ["n", "t", "asker"] (spOf K G m_questions) := by
  refine fn_ok (N := ["n", "t", "asker"]) T.F_questions sc_questions fun A E cdv Ar outer s H hr => ?_
  have tk : Takes (cxOf (L2.CX P w) P w K mg base ["n", "t", "asker"] "questions" (defScope s_questions) T.a_questions cdv Ar outer s H E) (fun cls d _ H => E cls d H) := takes_of rfl rfl rfl rfl
  have nd := sc_questions.nd
  exact (q_cons (s_expr (r_call (ok_require_within T) (hr.mono (by first | decide | omega)) tk T.g_require_within T.F_require_within.kp T.b_require_within (ra_cons (r_var 0) (ra_cons r_int (ra_cons (r_globI T.k_MOST_BITS) ra_nil)))))
    (q_cons (s_expr (r_call (ok_require_within T) (hr.mono (by first | decide | omega)) tk T.g_require_within T.F_require_within.kp T.b_require_within (ra_cons (r_var 1) (ra_cons r_int (ra_cons (r_globI T.k_MOST_LEVELS) ra_nil)))))
    (q_cons (s_expr (r_call (ok_require_asker T) (hr.mono (by first | decide | omega)) tk T.g_require_asker T.F_require_asker.kp T.b_require_asker (ra_cons (r_var 0) (ra_cons (r_var 1) (ra_cons (r_var 2) ra_nil)))))
    (q_one (s_ret (r_call (ok_questions_in T 5) (hr.mono (by first | decide | omega)) tk T.g_questions_in T.F_questions_in.kp T.b_questions_in (ra_cons (r_var 2) ra_nil)))))))
theorem sc__law_fr_shared : FnScope ["one", "other"] ["one", "other"] (defScope s__law_fr_shared) := ⟨rfl, rfl, rfl, by decide +kernel, rfl, by decide +kernel, by decide +kernel⟩
theorem ok__law_fr_shared (T : Txt K mg) : FnOk P w K mg base (L2.CX P w) 1 T.a__law_fr_shared T.d__law_fr_shared ["one", "other"] (spOf K G m_law_fr_shared) := by
  refine fn_ok (N := ["one", "other"]) T.F__law_fr_shared sc__law_fr_shared fun A E cdv Ar outer s H hr => ?_
  have tk : Takes (cxOf (L2.CX P w) P w K mg base ["one", "other"] "_law_fr_shared" (defScope s__law_fr_shared) T.a__law_fr_shared cdv Ar outer s H E) (fun cls d _ H => E cls d H) := takes_of rfl rfl rfl rfl
  have nd := sc__law_fr_shared.nd
  exact (q_cons (s_par 0 1 rfl nd (r_call1 call_abs u_abs T.z_abs (by decide +kernel) (r_var 0)) (r_call1 call_abs u_abs T.z_abs (by decide +kernel) (r_var 1)))
    (q_cons (s_while 100 (passes_of rfl) (rt_cmp op_gt b_gt bools_gt (r_var 1) r_int (nomark _)) (q_one (s_par 0 1 rfl nd (r_var 1) (r_bin op_mod b_mod (r_var 0) (r_var 1)))))
    (q_one (s_ret (r_var 0)))))
theorem sc__law_fr_made : FnScope ["top", "bottom", "shared"] ["top", "bottom"] (defScope s__law_fr_made) := ⟨rfl, rfl, rfl, by decide +kernel, rfl, by decide +kernel, by decide +kernel⟩
theorem ok__law_fr_made (T : Txt K mg) : FnOk P w K mg base (L2.CX P w) 2 T.a__law_fr_made T.d__law_fr_made ["top", "bottom"] (spOf K G m_law_fr_made) := by
  refine fn_ok (N := ["top", "bottom", "shared"]) T.F__law_fr_made sc__law_fr_made fun A E cdv Ar outer s H hr => ?_
  have tk : Takes (cxOf (L2.CX P w) P w K mg base ["top", "bottom", "shared"] "_law_fr_made" (defScope s__law_fr_made) T.a__law_fr_made cdv Ar outer s H E) (fun cls d _ H => E cls d H) := takes_of rfl rfl rfl rfl
  have nd := sc__law_fr_made.nd
  exact (q_cons (s_set 2 nd (r_call (ok__law_fr_shared T) (hr.mono (by first | decide | omega)) tk T.g__law_fr_shared T.F__law_fr_shared.kp T.b__law_fr_shared (ra_cons (r_var 0) (ra_cons (r_var 1) ra_nil))))
    (q_cons (s_if (rt_cmp op_lt b_lt bools_lt (r_var 1) r_int (nomark _)) (q_one (s_set 2 nd (r_bin op_subA b_sub r_int (r_var 2)))) q_nil)
    (q_one (s_ret (r_tup (ra_cons (r_bin op_divA b_div (r_var 0) (r_var 2)) (ra_cons (r_bin op_divA b_div (r_var 1) (r_var 2)) ra_nil)))))))
theorem sc__law_tr_edge : FnScope ["doubling", "test", "many", "met", "first", "second"] ["doubling", "test"] (defScope s__law_tr_edge) := ⟨rfl, rfl, rfl, by decide +kernel, rfl, by decide +kernel, by decide +kernel⟩
theorem ok__law_tr_edge (T : Txt K mg) : FnOk P w K mg base (L2.CX P w) 3 T.a__law_tr_edge T.d__law_tr_edge ["doubling", "test"] (spOf K G m_law_tr_edge) := by
  refine fn_ok (N := ["doubling", "test", "many", "met", "first", "second"]) T.F__law_tr_edge sc__law_tr_edge fun A E cdv Ar outer s H hr => ?_
  have tk : Takes (cxOf (L2.CX P w) P w K mg base ["doubling", "test", "many", "met", "first", "second"] "_law_tr_edge" (defScope s__law_tr_edge) T.a__law_tr_edge cdv Ar outer s H E) (fun cls d _ H => E cls d H) := takes_of rfl rfl rfl rfl
  have nd := sc__law_tr_edge.nd
  exact (q_cons (s_set 2 nd (r_call1 call_len u_len T.z_len (by decide +kernel) (r_var 0)))
    (q_cons (s_set 3 nd (r_call1 (cr_sumA rfl) u_sum T.z_sum (by decide +kernel) (r_comp [4, 5] rfl nd (i_seq (r_var 0)) (blkOk_by (own := [("first", 4), ("second", 5)]) (show blkC ["doubling", "test", "many", "met", "first", "second"] (defScope s__law_tr_edge) _ _ = true from by decide +kernel)) (fun _ _ _ _ _ _ => (g_tup rfl (gs_cons (g_name [4, 5] 4 nd) (gs_cons (g_name [4, 5] 5 nd) gs_nil)))) (fun _ _ _ _ _ _ => pts_yes) (fun _ _ _ _ _ _ => (r_ix (r_var 1) (r_bin op_addA b_add (r_var 4) (r_bin op_mulA b_mul (r_var 2) (r_var 5))))))))
    (q_one (s_ret (r_call (ok__law_fr_made T) (hr.mono (by first | decide | omega)) tk T.g__law_fr_made T.F__law_fr_made.kp T.b__law_fr_made (ra_cons (r_bin op_subA b_sub (r_bin op_mulA b_mul (r_var 3) (r_var 2)) (r_call1 (cr_sumA rfl) u_sum T.z_sum (by decide +kernel) (r_var 1))) (ra_cons (r_bin op_mulA b_mul (r_var 2) (r_var 2)) ra_nil)))))))
theorem sc__law_tr_others : FnScope ["hat", "n", "q", "j", "many", "found", "at", "pair"] ["hat", "n", "q", "j"] (defScope s__law_tr_others) := ⟨rfl, rfl, rfl, by decide +kernel, rfl, by decide +kernel, by decide +kernel⟩
theorem ok__law_tr_others (T : Txt K mg) : FnOk P w K mg base (L2.CX P w) 2 T.a__law_tr_others T.d__law_tr_others ["hat", "n", "q", "j"] (spOf K G m_law_tr_others) := by
  refine fn_ok (N := ["hat", "n", "q", "j", "many", "found", "at", "pair"]) T.F__law_tr_others sc__law_tr_others fun A E cdv Ar outer s H hr => ?_
  have tk : Takes (cxOf (L2.CX P w) P w K mg base ["hat", "n", "q", "j", "many", "found", "at", "pair"] "_law_tr_others" (defScope s__law_tr_others) T.a__law_tr_others cdv Ar outer s H E) (fun cls d _ H => E cls d H) := takes_of rfl rfl rfl rfl
  have nd := sc__law_tr_others.nd
  have hu : (Ar.deeper (envOfC "_law_tr_others" (defScope s__law_tr_others) s.heap.objs.size T.a__law_tr_others cdv)).units + 64 < cLine := hr.units
  exact (q_cons (s_parN 4 5 rfl nd (r_ix (r_lst (ra_cons r_int (ra_cons r_int (ra_cons r_int (ra_cons r_int ra_nil))))) (r_var 1)))
    (q_cons (s_for (passes_of rfl) rfl (i_range1 T.z_range (r_var 2)) (g_name [6] 6 nd) (q_cons (s_set 7 nd (r_tup (ra_cons (r_callIO 0 (ok__law_fr_up T) (hr.mono (by first | decide | omega)) tk T.g__law_fr_up T.F__law_fr_up.kp T.b__law_fr_up (pv 0) (ra_cons (r_var 4) ra_nil)) (ra_cons (r_callIO 0 (ok__law_fr_up T) (hr.mono (by first | decide | omega)) tk T.g__law_fr_up T.F__law_fr_up.kp T.b__law_fr_up (pv 0) (ra_cons (r_var 4) ra_nil)) ra_nil))))
    (q_one (s_expr (r_append 5 (r_if (rt_cmp op_lt b_lt bools_lt (r_var 6) (r_var 3) (nomark _)) (r_var 7) (r_if (rt_cmp (op_eqD hu) b_eq bools_eq (r_var 6) (r_var 3) (nomark _)) r_non (r_ix (r_var 7) r_int))) (pv 5))))))
    (q_one (s_ret (r_tuple T.z_tuple (r_var 5))))))
theorem sc__law_tr_below : FnScope ["doubling", "i", "j", "others", "tested", "index"] ["doubling", "i", "j", "others", "tested", "index"] (defScope s__law_tr_below) := ⟨rfl, rfl, rfl, by decide +kernel, rfl, by decide +kernel, by decide +kernel⟩
theorem ok__law_tr_below (T : Txt K mg) : FnOk P w K mg base (L2.CX P w) 1 T.a__law_tr_below T.d__law_tr_below ["doubling", "i", "j", "others", "tested", "index"] (spOf K G m_law_tr_below) := by
  refine fn_ok (N := ["doubling", "i", "j", "others", "tested", "index"]) T.F__law_tr_below sc__law_tr_below fun A E cdv Ar outer s H hr => ?_
  have tk : Takes (cxOf (L2.CX P w) P w K mg base ["doubling", "i", "j", "others", "tested", "index"] "_law_tr_below" (defScope s__law_tr_below) T.a__law_tr_below cdv Ar outer s H E) (fun cls d _ H => E cls d H) := takes_of rfl rfl rfl rfl
  have nd := sc__law_tr_below.nd
  have hu : (Ar.deeper (envOfC "_law_tr_below" (defScope s__law_tr_below) s.heap.objs.size T.a__law_tr_below cdv)).units + 64 < cLine := hr.units
  exact (q_cons (s_if (rt_cmp (op_eqD hu) b_eq bools_eq (r_var 5) (r_var 2) (nomark _)) (q_one (s_ret (r_var 4))) q_nil)
    (q_one (s_ret (r_if (rt_cmp op_lt b_lt bools_lt (r_var 5) (r_var 2) (nomark _)) (r_ix (r_var 3) (r_var 5)) (r_ix (r_var 0) (r_ix (r_var 3) (r_var 5)))))))
theorem sc__law_tr_leaf : FnScope ["doubling", "t", "seed", "x", "turn"] ["doubling", "t", "seed", "x"] (defScope s__law_tr_leaf) := ⟨rfl, rfl, rfl, by decide +kernel, rfl, by decide +kernel, by decide +kernel⟩
theorem ok__law_tr_leaf (T : Txt K mg) : FnOk P w K mg base (L2.CX P w) 1 T.a__law_tr_leaf T.d__law_tr_leaf ["doubling", "t", "seed", "x"] (spOf K G m_law_tr_leaf) := by
  refine fn_ok (N := ["doubling", "t", "seed", "x", "turn"]) T.F__law_tr_leaf sc__law_tr_leaf fun A E cdv Ar outer s H hr => ?_
  have tk : Takes (cxOf (L2.CX P w) P w K mg base ["doubling", "t", "seed", "x", "turn"] "_law_tr_leaf" (defScope s__law_tr_leaf) T.a__law_tr_leaf cdv Ar outer s H E) (fun cls d _ H => E cls d H) := takes_of rfl rfl rfl rfl
  have nd := sc__law_tr_leaf.nd
  exact (q_cons (s_for (passes_of rfl) rfl (i_range1 T.z_range (r_var 1)) (g_name [4] 4 nd) (q_cons (s_set 2 nd (r_ix (r_ix (r_var 0) (r_var 2)) (r_bin op_mod b_mod (r_var 3) r_int)))
    (q_one (s_set 3 nd (r_bin op_divA b_div (r_var 3) r_int)))))
    (q_one (s_ret (r_var 2))))
theorem sc__law_tr_met : FnScope ["doubling", "t", "asker", "i", "j", "others", "tested", "nodes", "x", "node", "turn", "pair"] ["doubling", "t", "asker", "i", "j", "others", "tested"] (defScope s__law_tr_met) := ⟨rfl, rfl, rfl, by decide +kernel, rfl, by decide +kernel, by decide +kernel⟩
theorem ok__law_tr_met (T : Txt K mg) : FnOk P w K mg base (L2.CX P w) 2 T.a__law_tr_met T.d__law_tr_met ["doubling", "t", "asker", "i", "j", "others", "tested"] (spOf K G m_law_tr_met) := by
  refine fn_ok (N := ["doubling", "t", "asker", "i", "j", "others", "tested", "nodes", "x", "node", "turn", "pair"]) T.F__law_tr_met sc__law_tr_met fun A E cdv Ar outer s H hr => ?_
  have tk : Takes (cxOf (L2.CX P w) P w K mg base ["doubling", "t", "asker", "i", "j", "others", "tested", "nodes", "x", "node", "turn", "pair"] "_law_tr_met" (defScope s__law_tr_met) T.a__law_tr_met cdv Ar outer s H E) (fun cls d _ H => E cls d H) := takes_of rfl rfl rfl rfl
  have nd := sc__law_tr_met.nd
  have hu65 : (Ar.deeper (envOfC "_law_tr_met" (defScope s__law_tr_met) s.heap.objs.size T.a__law_tr_met cdv)).units + 65 < cLine := hu65_of hr
  exact (q_cons (s_new 7 nd ra_nil)
    (q_cons (s_while 5 (passes_of rfl) (rt_tru (r_isi .tuple T.z_isinstance T.z_tuple (by decide +kernel) (r_var 2))) (q_cons (s_parN 8 9 rfl nd (r_ix (r_var 2) r_int))
    (q_cons (s_for (passes_of rfl) rfl (i_range1 T.z_range (r_var 3)) (g_name [10] 10 nd) (q_cons (s_expr (r_append 9 (r_bin op_mod b_mod (r_var 8) r_int) (pv 9)))
    (q_one (s_set 8 nd (r_bin op_divA b_div (r_var 8) r_int)))))
    (q_cons (s_if (rt_notinO 7 hu65 (r_var 9) (pv 7)) (q_one (s_expr (r_append 7 (r_var 9) (pv 7)))) q_nil)
    (q_cons (s_set 11 nd (r_call (ok__law_tr_below T) (hr.mono (by first | decide | omega)) tk T.g__law_tr_below T.F__law_tr_below.kp T.b__law_tr_below (ra_cons (r_var 0) (ra_cons (r_var 3) (ra_cons (r_var 4) (ra_cons (r_var 5) (ra_cons (r_var 6) (ra_cons (r_indexO 7 hu65 (r_var 9) (pv 7)) ra_nil))))))))
    (q_one (s_set 2 nd (r_ix (r_ix (r_var 2) r_int) (r_call (ok__law_tr_leaf T) (hr.mono (by first | decide | omega)) tk T.g__law_tr_leaf T.F__law_tr_leaf.kp T.b__law_tr_leaf (ra_cons (r_var 0) (ra_cons (r_bin op_subA b_sub (r_bin op_subA b_sub (r_var 1) (r_var 3)) r_int) (ra_cons (r_ix (r_var 11) (r_bin op_mod b_mod (r_var 8) r_int)) (ra_cons (r_bin op_divA b_div (r_var 8) r_int) ra_nil)))))))))))))
    (q_one (s_ret (r_var 2)))))
theorem sc__law_tr_test : FnScope ["n", "doubling", "t", "asker", "i", "j", "others", "many", "found", "second", "first"] ["n", "doubling", "t", "asker", "i", "j", "others"] (defScope s__law_tr_test) := ⟨rfl, rfl, rfl, by decide +kernel, rfl, by decide +kernel, by decide +kernel⟩
theorem ok__law_tr_test (T : Txt K mg) : FnOk P w K mg base (L2.CX P w) 3 T.a__law_tr_test T.d__law_tr_test ["n", "doubling", "t", "asker", "i", "j", "others"] (spOf K G m_law_tr_test) := by
  refine fn_ok (N := ["n", "doubling", "t", "asker", "i", "j", "others", "many", "found", "second", "first"]) T.F__law_tr_test sc__law_tr_test fun A E cdv Ar outer s H hr => ?_
  have tk : Takes (cxOf (L2.CX P w) P w K mg base ["n", "doubling", "t", "asker", "i", "j", "others", "many", "found", "second", "first"] "_law_tr_test" (defScope s__law_tr_test) T.a__law_tr_test cdv Ar outer s H E) (fun cls d _ H => E cls d H) := takes_of rfl rfl rfl rfl
  have nd := sc__law_tr_test.nd
  exact (q_cons (s_parN 7 8 rfl nd (r_ix (r_lst (ra_cons r_int (ra_cons r_int (ra_cons r_int (ra_cons r_int ra_nil))))) (r_var 0)))
    (q_cons (s_for (passes_of rfl) rfl (i_range1 T.z_range (r_var 7)) (g_name [9] 9 nd) (q_one (s_expr (r_extend 8 (r_comp [10] rfl nd (i_range1 T.z_range (r_var 7)) (blkOk_by (own := [("first", 10)]) (show blkC ["n", "doubling", "t", "asker", "i", "j", "others", "many", "found", "second", "first"] (defScope s__law_tr_test) _ _ = true from by decide +kernel)) (fun _ _ _ _ _ _ => (g_name [10] 10 nd)) (fun _ _ _ _ _ _ => pts_yes) (fun _ _ _ _ _ _ => (r_call (ok__law_tr_met T) (hr.mono (by first | decide | omega)) takes0 T.g__law_tr_met T.F__law_tr_met.kp T.b__law_tr_met (ra_cons (r_var 1) (ra_cons (r_var 2) (ra_cons (r_var 3) (ra_cons (r_var 4) (ra_cons (r_var 5) (ra_cons (r_var 6) (ra_cons (r_tup (ra_cons (r_var 10) (ra_cons (r_var 9) ra_nil))) ra_nil)))))))))) (pv 8)))))
    (q_one (s_ret (r_tuple T.z_tuple (r_var 8))))))
theorem sc__law_right : FnScope ["hat", "n", "t", "doubling", "asker", "test", "q", "turn", "i", "j", "others", "told"] ["hat"] (defScope s__law_right) := ⟨rfl, rfl, rfl, by decide +kernel, rfl, by decide +kernel, by decide +kernel⟩
theorem ok__law_right (T : Txt K mg) : FnOk P w K mg base (L2.CX P w) 13 T.a__law_right T.d__law_right ["hat"] (spOf K G m_law_right) := by
  refine fn_ok (N := ["hat", "n", "t", "doubling", "asker", "test", "q", "turn", "i", "j", "others", "told"]) T.F__law_right sc__law_right fun A E cdv Ar outer s H hr => ?_
  have tk : Takes (cxOf (L2.CX P w) P w K mg base ["hat", "n", "t", "doubling", "asker", "test", "q", "turn", "i", "j", "others", "told"] "_law_right" (defScope s__law_right) T.a__law_right cdv Ar outer s H E) (fun cls d _ H => E cls d H) := takes_of rfl rfl rfl rfl
  have nd := sc__law_right.nd
  have hu : (Ar.deeper (envOfC "_law_right" (defScope s__law_right) s.heap.objs.size T.a__law_right cdv)).units + 64 < cLine := hr.units
  exact (q_cons (s_asg (r_callIO 0 (ok__law_fr_of T) (hr.mono (by first | decide | omega)) tk T.g__law_fr_of T.F__law_fr_of.kp T.b__law_fr_of (pv 0) (ra_cons (r_lst (ra_cons (r_tup (ra_cons r_int (ra_cons r_int ra_nil))) (ra_cons (r_tup (ra_cons r_int (ra_cons r_int ra_nil))) (ra_cons (r_tup (ra_cons r_int (ra_cons r_int ra_nil))) (ra_cons (r_tup (ra_cons r_int (ra_cons r_int ra_nil))) (ra_cons (r_tup (ra_cons r_int (ra_cons r_int ra_nil))) (ra_cons (r_tup (ra_cons r_int (ra_cons r_int ra_nil))) (ra_cons (r_tup (ra_cons r_int (ra_cons r_int ra_nil))) (ra_cons (r_tup (ra_cons r_int (ra_cons r_int ra_nil))) (ra_cons (r_tup (ra_cons r_int (ra_cons r_int ra_nil))) ra_nil)))))))))) ra_nil)) (g_tup rfl (gs_cons (g_name [1, 2] 1 nd) (gs_cons (g_name [1, 2] 2 nd) gs_nil))))
    (q_cons (s_set 3 nd (r_callIO 0 (ok__law_tr_doubling T) (hr.mono (by first | decide | omega)) tk T.g__law_tr_doubling T.F__law_tr_doubling.kp T.b__law_tr_doubling (pv 0) (ra_cons (r_var 1) ra_nil)))
    (q_cons (s_set 4 nd (r_callIO 0 (ok__law_tr_asker T 5) (hr.mono (by first | decide | omega)) tk T.g__law_tr_asker T.F__law_tr_asker.kp T.b__law_tr_asker (pv 0) (ra_cons (r_var 1) (ra_cons (r_var 2) (ra_cons (r_if (rt_cmp op_lt b_lt bools_lt (r_var 1) r_int (nomark _)) (r_callIO 0 (ok__law_fr_of T) (hr.mono (by first | decide | omega)) tk T.g__law_fr_of T.F__law_fr_of.kp T.b__law_fr_of (pv 0) (ra_cons (r_lst (ra_cons r_int (ra_cons r_int (ra_cons r_int (ra_cons r_int ra_nil))))) ra_nil)) (r_bin op_addA b_add r_int (r_callIO 0 (ok__law_fr_up T) (hr.mono (by first | decide | omega)) tk T.g__law_fr_up T.F__law_fr_up.kp T.b__law_fr_up (pv 0) (ra_cons r_int ra_nil)))) ra_nil)))))
    (q_cons (s_set 5 nd (r_callIO 0 (ok__law_fr_bits T) (hr.mono (by first | decide | omega)) tk T.g__law_fr_bits T.F__law_fr_bits.kp T.b__law_fr_bits (pv 0) (ra_cons (r_ix (r_lst (ra_cons r_int (ra_cons r_int (ra_cons r_int (ra_cons r_int ra_nil))))) (r_var 1)) ra_nil)))
    (q_cons (s_if (rt_cmp (op_neD hu) b_ne bools_ne (r_call (ok_pair_edge T) (hr.mono (by first | decide | omega)) tk T.g_pair_edge T.F_pair_edge.kp T.b_pair_edge (ra_cons (r_var 1) (ra_cons (r_var 3) (ra_cons (r_var 5) ra_nil)))) (r_call (ok__law_tr_edge T) (hr.mono (by first | decide | omega)) tk T.g__law_tr_edge T.F__law_tr_edge.kp T.b__law_tr_edge (ra_cons (r_var 3) (ra_cons (r_var 5) ra_nil))) (nomark _)) (q_one (s_ret r_bl)) q_nil)
    (q_cons (s_set 6 nd (r_call (ok_questions T) (hr.mono (by first | decide | omega)) tk T.g_questions T.F_questions.kp T.b_questions (ra_cons (r_var 1) (ra_cons (r_var 2) (ra_cons (r_var 4) ra_nil)))))
    (q_cons (s_for (passes_of rfl) rfl (i_range1 T.z_range (r_if (rt_cmp op_gt b_gt bools_gt (r_var 6) r_int (nomark _)) r_int r_int)) (g_name [7] 7 nd) (q_cons (s_par 8 9 rfl nd (r_callIO 0 (ok__law_fr_up T) (hr.mono (by first | decide | omega)) tk T.g__law_fr_up T.F__law_fr_up.kp T.b__law_fr_up (pv 0) (ra_cons (r_var 2) ra_nil)) (r_callIO 0 (ok__law_fr_up T) (hr.mono (by first | decide | omega)) tk T.g__law_fr_up T.F__law_fr_up.kp T.b__law_fr_up (pv 0) (ra_cons (r_var 6) ra_nil)))
    (q_cons (s_set 10 nd (r_callIO 0 (ok__law_tr_others T) (hr.mono (by first | decide | omega)) tk T.g__law_tr_others T.F__law_tr_others.kp T.b__law_tr_others (pv 0) (ra_cons (r_var 1) (ra_cons (r_var 6) (ra_cons (r_var 9) ra_nil)))))
    (q_cons (s_set 11 nd (r_call (ok_made_test T) (hr.mono (by first | decide | omega)) tk T.g_made_test T.F_made_test.kp T.b_made_test (ra_cons (r_var 1) (ra_cons (r_var 3) (ra_cons (r_var 2) (ra_cons (r_var 4) (ra_cons (r_var 8) (ra_cons (r_var 9) (ra_cons (r_var 10) ra_nil)))))))))
    (q_cons (s_if (rt_cmp (op_neD hu) b_ne bools_ne (r_var 11) (r_call (ok__law_tr_test T) (hr.mono (by first | decide | omega)) tk T.g__law_tr_test T.F__law_tr_test.kp T.b__law_tr_test (ra_cons (r_var 1) (ra_cons (r_var 3) (ra_cons (r_var 2) (ra_cons (r_var 4) (ra_cons (r_var 8) (ra_cons (r_var 9) (ra_cons (r_var 10) ra_nil)))))))) (nomark _)) (q_one (s_ret r_bl)) q_nil)
    (q_cons (s_if (rt_cmp (op_neD hu) b_ne bools_ne (r_call (ok_pair_edge T) (hr.mono (by first | decide | omega)) tk T.g_pair_edge T.F_pair_edge.kp T.b_pair_edge (ra_cons (r_var 1) (ra_cons (r_var 3) (ra_cons (r_var 11) ra_nil)))) (r_call (ok__law_tr_edge T) (hr.mono (by first | decide | omega)) tk T.g__law_tr_edge T.F__law_tr_edge.kp T.b__law_tr_edge (ra_cons (r_var 3) (ra_cons (r_var 11) ra_nil))) (nomark _)) (q_one (s_ret r_bl)) q_nil)
    (q_one (s_if (PW.pt (rw_and (rt_cmp (op_eqD hu) b_eq bools_eq (r_var 8) r_int (nomark _)) (rw_and (rt_cmp op_gt b_gt bools_gt (r_var 9) r_int (nomark _)) (rw_one_and (rt_cmp (op_neD hu) b_ne bools_ne (r_lenSet rfl T.z_len T.z_set (r_var 11)) r_int (nomark _)))))) (q_one (s_ret r_bl)) q_nil))))))))
    (q_one (s_ret r_bl)))))))))
theorem sc_law : FnScope ["script", "spot", "hat", "turn", "ask", "told", "word", "pair", "test", "far"] ["script"] (defScope s_law) := ⟨rfl, rfl, rfl, by decide +kernel, rfl, by decide +kernel, by decide +kernel⟩
theorem ok_law (T : Txt K mg) : FnOk P w K mg base (L2.CX P w) 14 T.a_law T.d_law ["script"] (spOf K G m_law) := by
  refine fn_ok (N := ["script", "spot", "hat", "turn", "ask", "told", "word", "pair", "test", "far"]) T.F_law sc_law fun A E cdv Ar outer s H hr => ?_
  have tk : Takes (cxOf (L2.CX P w) P w K mg base ["script", "spot", "hat", "turn", "ask", "told", "word", "pair", "test", "far"] "law" (defScope s_law) T.a_law cdv Ar outer s H E) (fun cls d _ H => E cls d H) := takes_of rfl rfl rfl rfl
  have nd := sc_law.nd
  have hu : (Ar.deeper (envOfC "law" (defScope s_law) s.heap.objs.size T.a_law cdv)).units + 64 < cLine := hr.units
  exact (q_cons (s_for (passes_of rfl) rfl (i_range1 T.z_range (r_call2 (call_max2 rfl) b_max2 T.z_max (by decide +kernel) r_int (r_call2 (call_min2 rfl) b_min2 T.z_min (by decide +kernel) r_int (r_lenO 0 T.z_len (pv 0))))) (g_name [1] 1 nd) (q_cons (s_takeS 2 0 nd (ok__law_fr_hat T) (hr.mono (by first | decide | omega)) tk T.g__law_fr_hat T.F__law_fr_hat.kp T.b__law_fr_hat (pv 0) (ra_cons (r_var 1) ra_nil))
    (q_one (s_for (passes_of rfl) rfl (i_range1 T.z_range r_int) (g_name [3] 3 nd) (q_one (s_if (rt_not (rt_tru (r_callIO 2 (ok__law_right T) (hr.mono (by first | decide | omega)) tk T.g__law_right T.F__law_right.kp T.b__law_right (pv 2) ra_nil))) (q_one (s_ret r_bl)) q_nil))))))
    (q_cons (s_asg (r_tup (ra_cons (r_tup (ra_cons (r_tup (ra_cons r_int (ra_cons r_int ra_nil))) (ra_cons (r_tup (ra_cons r_int (ra_cons r_int ra_nil))) ra_nil))) (ra_cons (r_tup (ra_cons r_int (ra_cons (r_tup (ra_cons (r_tup (ra_cons r_int (ra_cons (r_tup (ra_cons r_int (ra_cons r_int ra_nil))) ra_nil))) (ra_cons (r_tup (ra_cons r_int (ra_cons (r_tup (ra_cons r_int (ra_cons r_int ra_nil))) ra_nil))) ra_nil))) ra_nil))) ra_nil))) (g_tup rfl (gs_cons (g_name [3, 4] 3 nd) (gs_cons (g_name [3, 4] 4 nd) gs_nil))))
    (q_cons (s_setLcO 5 [6] rfl nd (i_seq (r_tup (ra_cons r_int (ra_cons r_int ra_nil)))) (blkOk_by (own := [("word", 6)]) (show blkC ["script", "spot", "hat", "turn", "ask", "told", "word", "pair", "test", "far"] (defScope s_law) _ _ = true from by decide +kernel)) (fun _ _ _ _ _ _ => (g_name [6] 6 nd)) (fun _ _ _ _ _ _ => pts_yes) (fun _ _ _ _ _ _ => (r_call (ok_made_test T) (hr.mono (by first | decide | omega)) takes0 T.g_made_test T.F_made_test.kp T.b_made_test (ra_cons r_int (ra_cons (r_var 3) (ra_cons r_int (ra_cons (r_var 4) (ra_cons r_int (ra_cons r_int (ra_cons (r_tup (ra_cons r_non (ra_cons (r_var 6) ra_nil))) ra_nil))))))))) (sw_true rfl rfl rfl (by decide +kernel)))
    (q_cons (s_set 5 nd (r_bin op_addA b_add (r_var 5) (r_comp [7] rfl nd (i_seq (r_tup (ra_cons (r_tup (ra_cons r_int (ra_cons r_int ra_nil))) (ra_cons (r_tup (ra_cons r_int (ra_cons r_int ra_nil))) ra_nil)))) (blkOk_by (own := [("pair", 7)]) (show blkC ["script", "spot", "hat", "turn", "ask", "told", "word", "pair", "test", "far"] (defScope s_law) _ _ = true from by decide +kernel)) (fun _ _ _ _ _ _ => (g_name [7] 7 nd)) (fun _ _ _ _ _ _ => pts_yes) (fun _ _ _ _ _ _ => (r_call (ok_made_test T) (hr.mono (by first | decide | omega)) takes0 T.g_made_test T.F_made_test.kp T.b_made_test (ra_cons r_int (ra_cons (r_var 3) (ra_cons r_int (ra_cons (r_var 4) (ra_cons r_int (ra_cons r_int (ra_cons (r_tup (ra_cons (r_var 7) (ra_cons r_non ra_nil))) ra_nil))))))))))))
    (q_cons (s_if (rt_cmp (op_neD hu) b_ne bools_ne (r_var 5) (r_lst (ra_cons (r_tup (ra_cons r_int (ra_cons r_int (ra_cons r_int (ra_cons r_int ra_nil))))) (ra_cons (r_tup (ra_cons r_int (ra_cons r_int (ra_cons r_int (ra_cons r_int ra_nil))))) (ra_cons (r_tup (ra_cons r_int (ra_cons r_int (ra_cons r_int (ra_cons r_int ra_nil))))) (ra_cons (r_tup (ra_cons r_int (ra_cons r_int (ra_cons r_int (ra_cons r_int ra_nil))))) ra_nil))))) (nomark _)) (q_one (s_ret r_bl)) q_nil)
    (q_cons (s_if (rt_cmp (op_neD hu) b_ne bools_ne (r_comp [8] rfl nd (i_seq (r_tup (ra_cons (r_tup (ra_cons r_int (ra_cons r_int (ra_cons r_int (ra_cons r_int ra_nil))))) (ra_cons (r_tup (ra_cons r_int (ra_cons r_int (ra_cons r_int (ra_cons r_int ra_nil))))) (ra_cons (r_tup (ra_cons r_int (ra_cons r_int (ra_cons r_int (ra_cons r_int ra_nil))))) ra_nil))))) (blkOk_by (own := [("test", 8)]) (show blkC ["script", "spot", "hat", "turn", "ask", "told", "word", "pair", "test", "far"] (defScope s_law) _ _ = true from by decide +kernel)) (fun _ _ _ _ _ _ => (g_name [8] 8 nd)) (fun _ _ _ _ _ _ => pts_yes) (fun _ _ _ _ _ _ => (r_call (ok_pair_edge T) (hr.mono (by first | decide | omega)) takes0 T.g_pair_edge T.F_pair_edge.kp T.b_pair_edge (ra_cons r_int (ra_cons (r_var 3) (ra_cons (r_var 8) ra_nil)))))) (r_lst (ra_cons (r_tup (ra_cons r_int (ra_cons r_int ra_nil))) (ra_cons (r_tup (ra_cons (r_un un_neg u_neg r_int) (ra_cons r_int ra_nil))) (ra_cons (r_tup (ra_cons r_int (ra_cons r_int ra_nil))) ra_nil)))) (nomark _)) (q_one (s_ret r_bl)) q_nil)
    (q_cons (s_set 9 nd (r_tup (ra_cons r_int (ra_cons (r_tup (ra_cons (r_tup (ra_cons r_int (ra_cons (r_tup (ra_cons r_int (ra_cons r_int ra_nil))) ra_nil))) (ra_cons (r_tup (ra_cons r_int (ra_cons (r_tup (ra_cons r_int (ra_cons r_int ra_nil))) ra_nil))) ra_nil))) ra_nil))))
    (q_cons (s_setLcO 5 [6] rfl nd (i_seq (r_tup (ra_cons r_int (ra_cons r_int ra_nil)))) (blkOk_by (own := [("word", 6)]) (show blkC ["script", "spot", "hat", "turn", "ask", "told", "word", "pair", "test", "far"] (defScope s_law) _ _ = true from by decide +kernel)) (fun _ _ _ _ _ _ => (g_name [6] 6 nd)) (fun _ _ _ _ _ _ => pts_yes) (fun _ _ _ _ _ _ => (r_call (ok_made_test T) (hr.mono (by first | decide | omega)) takes0 T.g_made_test T.F_made_test.kp T.b_made_test (ra_cons r_int (ra_cons (r_var 3) (ra_cons r_int (ra_cons (r_var 9) (ra_cons r_int (ra_cons r_int (ra_cons (r_tup (ra_cons r_non (ra_cons (r_var 6) ra_nil))) ra_nil))))))))) (sw_true rfl rfl rfl (by decide +kernel)))
    (q_cons (s_expr (r_append 5 (r_call (ok_made_test T) (hr.mono (by first | decide | omega)) tk T.g_made_test T.F_made_test.kp T.b_made_test (ra_cons r_int (ra_cons (r_var 3) (ra_cons r_int (ra_cons (r_var 9) (ra_cons r_int (ra_cons r_int (ra_cons (r_tup (ra_cons (r_tup (ra_cons r_int (ra_cons r_int ra_nil))) (ra_cons r_non ra_nil))) ra_nil)))))))) (pv 5)))
    (q_one (s_ret (r_cmp (op_eqD hu) b_eq (r_var 5) (r_lst (ra_cons (r_tup (ra_cons r_int (ra_cons r_int (ra_cons r_int (ra_cons r_int ra_nil))))) (ra_cons (r_tup (ra_cons r_int (ra_cons r_int (ra_cons r_int (ra_cons r_int ra_nil))))) (ra_cons (r_tup (ra_cons r_int (ra_cons r_int (ra_cons r_int (ra_cons r_int ra_nil))))) ra_nil)))) (nomark _)))))))))))))
end
end k87
end DE
namespace DE
namespace k87
open PySem PySem.Spec PyProof.Rows L2
/-! ### drawing -/
def Ht (k : Nat) (h : D) : Prop := ∃ g s c : Int, h = .list [.int g, .int s, .int c] ∧ 0 ≤ g ∧ 0 ≤ s ∧ s < 2305843009213693952 ∧ 0 ≤ c ∧ c ≤ k
theorem Ht.mono {j k : Nat} {h : D} (x : Ht j h) (l : j ≤ k) : Ht k h := by
  obtain ⟨g, s, c, e, h1, h2, h3, h4, h5⟩ := x
  exact ⟨g, s, c, e, h1, h2, h3, h4, by omega⟩
theorem up_ok {k : Nat} {h : D} {n : Int} (x : Ht k h) (hk : k < 1000000000) (hn : 0 < n) (hb : n < 1000000) :
    ∃ (r : Nat) (h' : D), m_law_fr_up [.own true h, .d (.int n)] = .ok (.int (r : Nat)) [.own true h', .d (.int n)] ∧ (r : Int) < n ∧ Ht (k + 1) h' := by
  obtain ⟨g, s, c, rfl, h1, h2, h3, h4, h5⟩ := x
  by_cases hg : 0 < g
  · refine ⟨(g % n).toNat, .list [.int (g / n), .int s, .int c], ?_, ?_, g / n, s, c, rfl, Int.ediv_nonneg h1 (by omega), h2, h3, h4, by omega⟩
    · have e1 : ((g % n).toNat : Int) = g % n := Int.toNat_of_nonneg (Int.emod_nonneg _ (by omega))
      simp [mkFn, sSeq, sSkip, sSet, sRet, sRetN, sIf, sExpr, sNew, sNewD, sPar, sParN, sFor, sAsg, sAug, RS.seq, R.bind, R.bindS, optR, eVar, eC, eBin, eUn, tTru, tAnd', tOr', tNot', eAnd, eOr, eIf, eNil, eCons, eTup, eLst, eChain, eCall, eCallIO, eIxO, eLenO, isOL, isScr, eIxS, eApp, eExt, sPut, free, nth, truth, gNm, gTp, gsCons, gsNil, fNot, fLt, fLe, fGt, fGe, fAdd, fSub, fInt, fLen, fAbs, fIsi, isT, tYes', List.replicate, m_law_fr_up, b_law_fr_up, atI, ixN, hg, mod_ok hn, div_ok (x := g) hn (by omega), e1]
    · have := Int.emod_lt_of_pos g hn
      have := Int.emod_nonneg g (show n ≠ 0 by omega)
      omega
  · have hm : fMul (.int 32452843) (.int (c + 1)) = some (.int (32452843 * (c + 1))) := mul_ok (by decide) (by omega)
    have hm1 : fMul (.int 23) (.int (c + 1)) = some (.int (23 * (c + 1))) := mul_ok (by decide) (by omega)
    obtain ⟨one, ho⟩ : ∃ one, one = (s + 32452843 * (c + 1)) % 2305843009213693951 := ⟨_, rfl⟩
    have o1 : 0 ≤ one ∧ one < 2305843009213693951 := by rw [ho]; exact ⟨Int.emod_nonneg _ (by decide), Int.emod_lt_of_pos _ (by decide)⟩
    have hm2 : fMul (.int one) (.int one) = some (.int (one * one)) := mul_ok (by omega) (by omega)
    obtain ⟨tw, ht⟩ : ∃ tw, tw = (one * one + 49979687) % 2305843009213693921 := ⟨_, rfl⟩
    have t1 : 0 ≤ tw ∧ tw < 2305843009213693921 := by rw [ht]; exact ⟨Int.emod_nonneg _ (by decide), Int.emod_lt_of_pos _ (by decide)⟩
    have hm3 : fMul (.int tw) (.int 15485863) = some (.int (tw * 15485863)) := mul_ok (by omega) (by decide)
    refine ⟨((tw * 15485863 + one + 23 * (c + 1)) / 65539 % n).toNat, .list [.int g, .int s, .int (c + 1)], ?_, ?_, g, s, c + 1, rfl, h1, h2, h3, by omega, by omega⟩
    · have e1 : (((tw * 15485863 + one + 23 * (c + 1)) / 65539 % n).toNat : Int) = (tw * 15485863 + one + 23 * (c + 1)) / 65539 % n := Int.toNat_of_nonneg (Int.emod_nonneg _ (by omega))
      simp [mkFn, sSeq, sSkip, sSet, sRet, sRetN, sIf, sExpr, sNew, sNewD, sPar, sParN, sFor, sAsg, sAug, RS.seq, R.bind, R.bindS, optR, eVar, eC, eBin, eUn, tTru, tAnd', tOr', tNot', eAnd, eOr, eIf, eNil, eCons, eTup, eLst, eChain, eCall, eCallIO, eIxO, eLenO, isOL, isScr, eIxS, eApp, eExt, sPut, free, nth, truth, gNm, gTp, gsCons, gsNil, fNot, fLt, fLe, fGt, fGe, fAdd, fSub, fInt, fLen, fAbs, fIsi, isT, tYes', List.replicate, m_law_fr_up, b_law_fr_up, atI, ixN, hg, hm, mod_ok (x := s + 32452843 * (c + 1)) (y := 2305843009213693951) (by decide), ← ho, hm2, mod_ok (x := one * one + 49979687) (y := 2305843009213693921) (by decide), ← ht, hm3, hm1, div_ok (x := tw * 15485863 + one + 23 * (c + 1)) (y := 65539) (by decide) (by decide), mod_ok (x := (tw * 15485863 + one + 23 * (c + 1)) / 65539) hn, e1]
    · have := Int.emod_lt_of_pos ((tw * 15485863 + one + 23 * (c + 1)) / 65539) hn
      have := Int.emod_nonneg ((tw * 15485863 + one + 23 * (c + 1)) / 65539) (show n ≠ 0 by omega)
      omega
theorem hat_ok (ns : List Int) (spot : Nat) (hs : spot < 1000) : ∃ (h : D) (o : Sl), m_law_fr_hat [.scr ns, .d (.int spot)] = .ok h o ∧ Ht 0 h := by
  obtain ⟨cell, hc⟩ : ∃ cell : Int, cell = if h : spot < ns.length then ns[spot] else 463 * (spot : Int) + 97 := ⟨_, rfl⟩
  obtain ⟨P, hP⟩ : ∃ P : Int, P = 10 ^ 55 := ⟨_, rfl⟩
  obtain ⟨PP, hPP⟩ : ∃ PP : Int, PP = P ^ 7 := ⟨_, rfl⟩
  have p1 : fPow (.int 10) (.int 55) = some (.int P) := by rw [hP]; exact pow_ok (by decide +kernel)
  have p2 : fPow (.int P) (.int 7) = some (.int PP) := by rw [hPP, hP]; exact pow_ok (by decide +kernel)
  have p3 : fPow (.int 10) (.int 16) = some (.int 10000000000000000) := pow_ok (by decide +kernel)
  have pos : 0 < PP := by rw [hPP, hP]; decide +kernel
  have m0 : fMul (.int 463) (.int spot) = some (.int (463 * spot)) := mul_ok (by decide) (by omega)
  have m1 : fMul (.int 5011) (.int spot) = some (.int (5011 * spot)) := mul_ok (by decide) (by omega)
  obtain ⟨great, hg⟩ : ∃ great : Int, great = (if cell < 0 then -cell else cell) % PP := ⟨_, rfl⟩
  have g0 : 0 ≤ great := by rw [hg]; exact Int.emod_nonneg _ (by omega)
  obtain ⟨gm, hgm⟩ : ∃ gm : Int, gm = great % 2305843009213693669 := ⟨_, rfl⟩
  have gm1 : 0 ≤ gm ∧ gm < 2305843009213693669 := by rw [hgm]; exact ⟨Int.emod_nonneg _ (by decide), Int.emod_lt_of_pos _ (by decide)⟩
  have m2 : fMul (.int gm) (.int 83) = some (.int (gm * 83)) := mul_ok (by omega) (by decide)
  obtain ⟨neg, hn⟩ : ∃ neg : Int, neg = if cell < 0 then 1 else 0 := ⟨_, rfl⟩
  have n1 : 0 ≤ neg ∧ neg ≤ 1 := by rw [hn]; split <;> decide
  have m3 : fMul (.int 37) (.int neg) = some (.int (37 * neg)) := mul_ok (by decide) (by omega)
  obtain ⟨seed, hsd⟩ : ∃ seed : Int, seed = (gm * 83 + 5011 * spot + 37 * neg + 53) % 2305843009213693951 := ⟨_, rfl⟩
  have s1 : 0 ≤ seed ∧ seed < 2305843009213693951 := by rw [hsd]; exact ⟨Int.emod_nonneg _ (by decide), Int.emod_lt_of_pos _ (by decide)⟩
  have hcell : eIf (tTru (eBin fLt (eVar 1) (eLenO 0))) (eUn fInt (eIxS 0 (eVar 1))) (eBin fAdd (eBin fMul (eC (.int 463)) (eVar 1)) (eC (.int 97))) [.scr ns, .d (.int spot), .un, .un, .un] = .ok (.int cell) [.scr ns, .d (.int spot), .un, .un, .un] := by
    by_cases h : spot < ns.length
    · rw [dif_pos h] at hc
      have ha : atI ns (spot : Int) = some ns[spot] := by rw [atI_nat' (by omega)]; simp [h]
      simp [mkFn, sSeq, sSkip, sSet, sRet, sRetN, sIf, sExpr, sNew, sNewD, sPar, sParN, sFor, sAsg, sAug, RS.seq, R.bind, R.bindS, optR, eVar, eC, eBin, eUn, tTru, tAnd', tOr', tNot', eAnd, eOr, eIf, eNil, eCons, eTup, eLst, eChain, eCall, eCallIO, eIxO, eLenO, isOL, isScr, eIxS, eApp, eExt, sPut, free, nth, truth, gNm, gTp, gsCons, gsNil, fNot, fLt, fLe, fGt, fGe, fAdd, fSub, fInt, fLen, fAbs, fIsi, isT, tYes', List.replicate, h, ha, hc]
    · rw [dif_neg h] at hc
      simp [mkFn, sSeq, sSkip, sSet, sRet, sRetN, sIf, sExpr, sNew, sNewD, sPar, sParN, sFor, sAsg, sAug, RS.seq, R.bind, R.bindS, optR, eVar, eC, eBin, eUn, tTru, tAnd', tOr', tNot', eAnd, eOr, eIf, eNil, eCons, eTup, eLst, eChain, eCall, eCallIO, eIxO, eLenO, isOL, isScr, eIxS, eApp, eExt, sPut, free, nth, truth, gNm, gTp, gsCons, gsNil, fNot, fLt, fLe, fGt, fGe, fAdd, fSub, fInt, fLen, fAbs, fIsi, isT, tYes', List.replicate, h, m0, hc]
  refine ⟨.list [.int (if great - 10000000000000000 > 0 then great - 10000000000000000 else 0), .int seed, .int 0], [.scr ns, .d (.int spot)], ?_, _, seed, 0, rfl, ?_, s1.1, by omega, by omega, by omega⟩
  · have e2 : (if cell < 0 then (-cell : Int) else cell) % PP = great := hg.symm
    unfold m_law_fr_hat b_law_fr_hat
    simp only [mkFnN, sSeqN, List.length_cons, List.length_nil, List.replicate, List.cons_append, List.nil_append, sSet, hcell]
    simp [mkFn, sSeq, sSkip, sSet, sRet, sRetN, sIf, sExpr, sNew, sNewD, sPar, sParN, sFor, sAsg, sAug, RS.seq, R.bind, R.bindS, optR, eVar, eC, eBin, eUn, tTru, tAnd', tOr', tNot', eAnd, eOr, eIf, eNil, eCons, eTup, eLst, eChain, eCall, eCallIO, eIxO, eLenO, isOL, isScr, eIxS, eApp, eExt, sPut, free, nth, truth, gNm, gTp, gsCons, gsNil, fNot, fLt, fLe, fGt, fGe, fAdd, fSub, fInt, fLen, fAbs, fIsi, isT, tYes', List.replicate, sRetL, p1, p2, p3, mod_ok pos, e2, mod_ok (x := great) (y := 2305843009213693669) (by decide), ← hgm, m1, m2, fMax2]
    by_cases hneg : cell < 0
    · rw [if_pos hneg] at hn
      subst hn
      simp [mkFn, sSeq, sSkip, sSet, sRet, sRetN, sIf, sExpr, sNew, sNewD, sPar, sParN, sFor, sAsg, sAug, RS.seq, R.bind, R.bindS, optR, eVar, eC, eBin, eUn, tTru, tAnd', tOr', tNot', eAnd, eOr, eIf, eNil, eCons, eTup, eLst, eChain, eCall, eCallIO, eIxO, eLenO, isOL, isScr, eIxS, eApp, eExt, sPut, free, nth, truth, gNm, gTp, gsCons, gsNil, fNot, fLt, fLe, fGt, fGe, fAdd, fSub, fInt, fLen, fAbs, fIsi, isT, tYes', List.replicate, sRetL, fMax2, hneg, m1, m3, p3, mod_ok (x := gm * 83 + 5011 * spot + 37 + 53) (y := 2305843009213693951) (by decide), hsd]
    · rw [if_neg hneg] at hn
      subst hn
      simp [mkFn, sSeq, sSkip, sSet, sRet, sRetN, sIf, sExpr, sNew, sNewD, sPar, sParN, sFor, sAsg, sAug, RS.seq, R.bind, R.bindS, optR, eVar, eC, eBin, eUn, tTru, tAnd', tOr', tNot', eAnd, eOr, eIf, eNil, eCons, eTup, eLst, eChain, eCall, eCallIO, eIxO, eLenO, isOL, isScr, eIxS, eApp, eExt, sPut, free, nth, truth, gNm, gTp, gsCons, gsNil, fNot, fLt, fLe, fGt, fGe, fAdd, fSub, fInt, fLen, fAbs, fIsi, isT, tYes', List.replicate, sRetL, fMax2, hneg, m1, m3, p3, mod_ok (x := gm * 83 + 5011 * spot + 53) (y := 2305843009213693951) (by decide), hsd]
  · split <;> omega
theorem of_ok {k : Nat} {h : D} {xs : List D} (x : Ht k h) (hk : k < 1000000000) (hn : 0 < xs.length) (hb : xs.length < 1000) :
    ∃ (y : D) (h' : D) (o : Sl), m_law_fr_of [.own true h, .d (.list xs)] = .ok y (.own true h' :: o) ∧ y ∈ xs ∧ Ht (k + 1) h' := by
  obtain ⟨r, h', e, hr, x'⟩ := up_ok (n := xs.length) x hk (by omega) (by omega)
  have hr' : r < xs.length := by omega
  obtain ⟨g, s, c, rfl, _⟩ := x
  refine ⟨xs[r], h', [.d (.list xs)], ?_, List.getElem_mem _, x'⟩
  have ha : atI xs (r : Int) = some xs[r] := by rw [atI_nat' (by omega)]; simp [hr']
  simp [mkFn, sSeq, sSkip, sSet, sRet, sRetN, sIf, sExpr, sNew, sNewD, sPar, sParN, sFor, sAsg, sAug, RS.seq, R.bind, R.bindS, optR, eVar, eC, eBin, eUn, tTru, tAnd', tOr', tNot', eAnd, eOr, eIf, eNil, eCons, eTup, eLst, eChain, eCall, eCallIO, eIxO, eLenO, isOL, isScr, eIxS, eApp, eExt, sPut, free, nth, truth, gNm, gTp, gsCons, gsNil, fNot, fLt, fLe, fGt, fGe, fAdd, fSub, fInt, fLen, fAbs, fIsi, isT, tYes', List.replicate, m_law_fr_of, b_law_fr_of, e, fIx, ha]
def bitD (d : D) : Prop := d = .int 0 ∨ d = .int 1
theorem bits_ok {k m : Nat} {h : D} (x : Ht k h) (hk : k + m < 1000000000) (hm : m ≤ 1000) :
    ∃ (ys : List D) (h' : D) (o : Sl), m_law_fr_bits [.own true h, .d (.int m)] = .ok (.tuple ys) (.own true h' :: o) ∧ ys.length = m ∧ (∀ y ∈ ys, bitD y) ∧ Ht (k + m) h' := by
  obtain ⟨ys, s', e1, l1, q1, h', e2, x'⟩ := comp_inv (vs := [2]) (g := gNm 2) (tt := tYes') (te := te_law_fr_bits_1) (fun i sl => ∃ h', sl = [.own true h', .d (.int m), .un] ∧ Ht (k + i) h') (fun _ y => bitD y) (rangeD 0 m) 0 [.own true h, .d (.int m), .un] ⟨h, rfl, x⟩ fun i y sl hi ⟨h', e, x'⟩ => by
    subst e
    obtain ⟨hi1, rfl⟩ := rangeD_get hi
    obtain ⟨r, h2, e, hr, x2⟩ := up_ok (n := 2) x' (by omega) (by omega) (by omega)
    obtain ⟨g, s, c, rfl, _⟩ := x'
    refine ⟨_, _, .int r, [.own true h2, .d (.int m), .d (.int (0 + (i : Nat)))], rfl, rfl, ?_, ?_, h2, rfl, x2⟩
    · simp [mkFn, sSeq, sSkip, sSet, sRet, sRetN, sIf, sExpr, sNew, sNewD, sPar, sParN, sFor, sAsg, sAug, RS.seq, R.bind, R.bindS, optR, eVar, eC, eBin, eUn, tTru, tAnd', tOr', tNot', eAnd, eOr, eIf, eNil, eCons, eTup, eLst, eChain, eCall, eCallIO, eIxO, eLenO, isOL, isScr, eIxS, eApp, eExt, sPut, free, nth, truth, gNm, gTp, gsCons, gsNil, fNot, fLt, fLe, fGt, fGe, fAdd, fSub, fInt, fLen, fAbs, fIsi, isT, tYes', List.replicate, te_law_fr_bits_1, e, ioz, wipeS, iozW]
    · have : r = 0 ∨ r = 1 := by omega
      rcases this with rfl | rfl
      · exact .inl rfl
      · exact .inr rfl
  subst e2
  rw [Nat.zero_add, rangeD_length] at x'
  refine ⟨ys, h', [.d (.int m)], ?_, by rw [l1, rangeD_length], fun y hy => ?_, x'⟩
  · have ec := comp_ok (range1_ok (e := eVar 1) (sl := [.own true h, .d (.int m), .un]) (n := m) rfl (by omega)) (by rw [rangeD_length]; omega) rfl e1
    have e5 := eUn_ok (f := fTuple) ec rfl
    have e6 := sRet_ok e5
    have e7 := mkFn_rt (np := 2) (n := 3) (as := [.own true h, .d (.int m)]) rfl rfl e6
    exact e7
  · obtain ⟨i, hi⟩ := List.mem_iff_getElem?.mp hy
    exact q1 i y hi
def pr (p : Nat × Nat) : D := .tuple [.int (p.1 : Nat), .int (p.2 : Nat)]
/-- a doubling of N words -/
def Dbl (N : Nat) (l : List (Nat × Nat)) : Prop := l.length = N ∧ ∀ p ∈ l, p.1 < N ∧ p.2 < N
theorem up2_ok {k : Nat} {h : D} {i : Nat} {rest : Sl} (x : Ht k h) (hk : k + 1 < 1000000000) (e : Exs) {n : Int} (hn : 0 < n) (hb : n < 1000000) (he : ∀ h', e (.own true h' :: rest) = .ok [.int n] (.own true h' :: rest)) :
    ∃ (r : Nat) (h' : D), eCallIO m_law_fr_up 0 e (.own true h :: rest) = .ok (.int (r : Nat)) (.own true h' :: rest) ∧ (r : Int) < n ∧ Ht (k + 1) h' := by
  obtain ⟨r, h', e1, hr, x'⟩ := up_ok x (by omega) hn hb
  obtain ⟨g, s, c, rfl, _⟩ := x
  exact ⟨r, h', eCallIO_ok (i := 0) (sl := .own true (.list [.int g, .int s, .int c]) :: rest) rfl (he _) rfl e1, hr, x'⟩
theorem dbl_ok {k n : Nat} {h : D} (x : Ht k h) (hk : k + 17 < 1000000000) (hn : n = 1 ∨ n = 2 ∨ n = 3) :
    ∃ (l : List (Nat × Nat)) (h' : D) (o : Sl), m_law_tr_doubling [.own true h, .d (.int n)] = .ok (.tuple (l.map pr)) (.own true h' :: o) ∧ Dbl (2 ^ n) l ∧ Ht (k + 17) h' := by
  obtain ⟨N, hN, hN8⟩ : ∃ N, N = 2 ^ n ∧ 0 < N ∧ N ≤ 8 := by rcases hn with rfl | rfl | rfl <;> exact ⟨_, rfl, by decide, by decide⟩
  obtain ⟨g, s, c, hh⟩ : ∃ g s c : Int, h = .list [.int g, .int s, .int c] := by
    obtain ⟨g, s, c, e, _⟩ := x
    exact ⟨g, s, c, e⟩
  have e1 : sSet 2 (eBin fIx (eLst (eCons (eC (.int 1)) (eCons (eC (.int 2)) (eCons (eC (.int 4)) (eCons (eC (.int 8)) (eNil)))))) (eVar 1)) [.own true h, .d (.int n), .un, .un, .un, .un] = .nx [.own true h, .d (.int n), .d (.int N), .un, .un, .un] := by
    rcases hn with rfl | rfl | rfl <;> (subst hN; rfl)
  obtain ⟨ys, s', e2, l2, q2, h2, e3, x2⟩ := comp_inv (vs := [4]) (g := gNm 4) (tt := tYes') (te := te_law_tr_doubling_1)
    (fun i sl => ∃ h', sl = [.own true h', .d (.int n), .d (.int N), .un, .un, .un] ∧ Ht (k + 2 * i) h') (fun _ y => ∃ p : Nat × Nat, (p.1 < N ∧ p.2 < N) ∧ y = pr p) (rangeD 0 N) 0 [.own true h, .d (.int n), .d (.int N), .un, .un, .un] ⟨h, rfl, x⟩ fun i y sl hi ⟨h', e, x'⟩ => by
    subst e
    obtain ⟨hi1, rfl⟩ := rangeD_get hi
    obtain ⟨r, h2, e2, hr, x2⟩ := up2_ok (i := 0) (rest := [.d (.int n), .d (.int N), .un, .d (.int (0 + (i : Nat))), .un]) x' (by omega) (eCons (eVar 2) eNil) (n := N) (by omega) (by omega) (fun _ => rfl)
    obtain ⟨r', h3, e3, hr', x3⟩ := up2_ok (i := 0) (rest := [.d (.int n), .d (.int N), .un, .d (.int (0 + (i : Nat))), .un]) x2 (by omega) (eCons (eVar 2) eNil) (n := N) (by omega) (by omega) (fun _ => rfl)
    exact ⟨_, _, pr (r, r'), _, rfl, rfl, eTup_ok (eCons_ok e2 (eCons_ok e3 eNil_ok)) (Nat.le_of_ble_eq_true rfl), ⟨(r, r'), ⟨by omega, by omega⟩, rfl⟩, h3, rfl, by rw [show k + 2 * (0 + i + 1) = k + 2 * (0 + i) + 1 + 1 by omega]; exact x3⟩
  subst e3
  rw [Nat.zero_add, rangeD_length] at x2
  obtain ⟨l, rfl, hl⟩ := all_map (get_all q2)
  rw [List.length_map, rangeD_length] at l2
  have e4 := comp_ok (range1_ok (e := eVar 2) (sl := [.own true h, .d (.int n), .d (.int N), .un, .un, .un]) (n := N) rfl (by omega)) (by rw [rangeD_length]; omega) rfl e2
  have e5 := sSet_ok (i := 3) (eUn_ok (f := fTuple) e4 rfl) rfl
  obtain ⟨r, h3, e6, hr, x3⟩ := up2_ok (i := 0) (rest := [.d (.int n), .d (.int N), .d (.tuple (l.map pr)), .un, .un]) x2 (by omega) (eCons (eC (.int 4)) eNil) (n := 4) (by omega) (by omega) (fun _ => rfl)
  have e7 := tTru_ok (eBin_ok (f := fEq) (b := eC (.int 0)) e6 rfl eq_int) rfl
  by_cases hz : r = 0
  · subst hz
    have e8 := comp_map (vs := [5]) (g := gNm 5) (tt := tYes') (te := te_law_tr_doubling_2) (fun d => match d with
      | .tuple (x :: _) => .tuple [x, x]
      | d => d) [.own true h3, .d (.int n), .d (.int N), .d (.tuple (l.map pr)), .un, .un] (l.map pr) fun d hd => by
        obtain ⟨p, _, rfl⟩ := List.mem_map.mp hd
        exact ⟨_, _, _, rfl, rfl, rfl, rfl⟩
    have e9 := comp_ok (itemsT_ok (e := eVar 3) (sl := [.own true h3, .d (.int n), .d (.int N), .d (.tuple (l.map pr)), .un, .un]) rfl) (by rw [List.length_map]; omega) rfl e8
    have e10 := sSet_ok (i := 3) (eUn_ok (f := fTuple) e9 rfl) rfl
    have eb : b_law_tr_doubling [.own true h, .d (.int n), .un, .un, .un, .un] = .rt (.tuple ((l.map pr).map fun d => match d with
      | .tuple (x :: _) => .tuple [x, x]
      | d => d)) [.own true h3, .d (.int n), .d (.int N), .d (.tuple ((l.map pr).map fun d => match d with
      | .tuple (x :: _) => .tuple [x, x]
      | d => d)), .un, .un] := by
      unfold b_law_tr_doubling
      exact (sSeq_nx e1).trans ((sSeq_nx e5).trans ((sSeq_nx ((sIf_t e7).trans e10)).trans (sRet_ok rfl)))
    refine ⟨l.map fun p => (p.1, p.1), h3, [.d (.int n)], ?_, ⟨by rw [List.length_map, l2, hN], fun p hp => ?_⟩, x3.mono (by omega)⟩
    · have := mkFn_rt (np := 2) (n := 6) (as := [.own true h, .d (.int n)]) rfl rfl eb
      rw [List.map_map] at this ⊢
      exact this
    · obtain ⟨q, hq, rfl⟩ := List.mem_map.mp hp
      rw [← hN]
      exact ⟨(hl q hq).1, (hl q hq).1⟩
  · have hz' : ((r : Int) == 0) = false := by simpa using hz
    rw [hz'] at e7
    have eb : b_law_tr_doubling [.own true h, .d (.int n), .un, .un, .un, .un] = .rt (.tuple (l.map pr)) [.own true h3, .d (.int n), .d (.int N), .d (.tuple (l.map pr)), .un, .un] := by
      unfold b_law_tr_doubling
      exact (sSeq_nx e1).trans ((sSeq_nx e5).trans ((sSeq_nx (sIf_f e7)).trans (sRet_ok rfl)))
    refine ⟨l, h3, [.d (.int n)], mkFn_rt (np := 2) (n := 6) (as := [.own true h, .d (.int n)]) rfl rfl eb, ⟨by rw [l2, hN], fun p hp => ?_⟩, x3.mono (by omega)⟩
    rw [← hN]
    exact hl p hp
/-- an asker of at most left questions -/
def AOk (n t : Nat) : Nat → D → Prop
  | 0, a => bitD a
  | left + 1, a => bitD a ∨ ∃ (x : Nat) (ks : List D), a = .tuple [.int (x : Nat), .tuple ks] ∧ x < 2 ^ t ∧ ks.length = 2 ^ n ∧ ∀ c ∈ ks, AOk n t left c
def Cask : Nat → Nat
  | 0 => 1
  | l + 1 => 2 + 8 * Cask l
theorem r_bit {r : Nat} (h : (r : Int) < 2) : bitD (.int (r : Nat)) := by
  have : r = 0 ∨ r = 1 := by omega
  rcases this with rfl | rfl
  · exact .inl rfl
  · exact .inr rfl
theorem AOk.bit {n t left : Nat} {a : D} (h : bitD a) : AOk n t left a := by
  cases left with
  | zero => exact h
  | succ l => exact .inl h
theorem ask_ok {n t : Nat} (hn : n = 1 ∨ n = 2 ∨ n = 3) (ht : t ≤ 4) : ∀ (left fuel k : Nat) (h : D), left < fuel → Ht k h → k + Cask left < 1000000000 →
    ∃ (a h' : D) (o : Sl), m_law_tr_asker fuel [.own true h, .d (.int n), .d (.int t), .d (.int left)] = .ok a (.own true h' :: o) ∧ AOk n t left a ∧ Ht (k + Cask left) h' := by
  obtain ⟨N, hN, hN8⟩ : ∃ N, N = 2 ^ n ∧ 0 < N ∧ N ≤ 8 := by rcases hn with rfl | rfl | rfl <;> exact ⟨_, rfl, by decide, by decide⟩
  obtain ⟨T, hT, hT16⟩ : ∃ T, T = 2 ^ t ∧ 0 < T ∧ T ≤ 16 := by
    have : t = 0 ∨ t = 1 ∨ t = 2 ∨ t = 3 ∨ t = 4 := by omega
    rcases this with rfl | rfl | rfl | rfl | rfl <;> exact ⟨_, rfl, by decide, by decide⟩
  intro left
  induction left with
  | zero =>
    intro fuel k h hf x hk
    obtain ⟨f, rfl⟩ : ∃ f, fuel = f + 1 := ⟨fuel - 1, by omega⟩
    obtain ⟨r, h2, e1, hr, x2⟩ := up2_ok (i := 0) (rest := [.d (.int n), .d (.int t), .d (.int (0 : Nat)), .un, .un]) x (by unfold Cask at hk; omega) (eCons (eC (.int 2)) eNil) (n := 2) (by omega) (by omega) (fun _ => rfl)
    have e2 := sRet_ok e1
    have e3 : tOr' (tTru (eBin fEq (eVar 3) (eC (.int 0)))) (tTru (eBin fEq (eCallIO m_law_fr_up 0 (eCons (eC (.int 9)) (eNil))) (eC (.int 0)))) [.own true h, .d (.int n), .d (.int t), .d (.int (0 : Nat)), .un, .un] = .ok true [.own true h, .d (.int n), .d (.int t), .d (.int (0 : Nat)), .un, .un] := tOr_t rfl
    exact ⟨_, h2, _, mkFn_rt (np := 4) (n := 6) (as := [.own true h, .d (.int n), .d (.int t), .d (.int (0 : Nat))]) rfl rfl (sSeq_rt ((sIf_t e3).trans e2)), r_bit hr, x2⟩
  | succ left ih =>
    intro fuel k h hf x hk
    obtain ⟨f, rfl⟩ : ∃ f, fuel = f + 1 := ⟨fuel - 1, by omega⟩
    have hc : Cask (left + 1) = 2 + 8 * Cask left := rfl
    obtain ⟨r, h2, e1, hr, x2⟩ := up2_ok (i := 0) (rest := [.d (.int n), .d (.int t), .d (.int (left + 1 : Nat)), .un, .un]) x (by omega) (eCons (eC (.int 9)) eNil) (n := 9) (by omega) (by omega) (fun _ => rfl)
    have e2 := tTru_ok (eBin_ok (f := fEq) (b := eC (.int 0)) e1 rfl eq_int) rfl
    have e0 : tTru (eBin fEq (eVar 3) (eC (.int 0))) [.own true h, .d (.int n), .d (.int t), .d (.int (left + 1 : Nat)), .un, .un] = .ok false [.own true h, .d (.int n), .d (.int t), .d (.int (left + 1 : Nat)), .un, .un] := by
      have e := tTru_ok (eBin_ok (f := fEq) (a := eVar 3) (b := eC (.int 0)) (sl := [.own true h, .d (.int n), .d (.int t), .d (.int (left + 1 : Nat)), .un, .un]) rfl rfl eq_int) rfl
      have z : (((left + 1 : Nat) : Int) == 0) = false := by simp; omega
      rw [z] at e
      exact e
    have e3 := (tOr_f (b := tTru (eBin fEq (eCallIO m_law_fr_up 0 (eCons (eC (.int 9)) (eNil))) (eC (.int 0)))) e0).trans e2
    by_cases hz : r = 0
    · subst hz
      obtain ⟨r', h3, e4, hr', x3⟩ := up2_ok (i := 0) (rest := [.d (.int n), .d (.int t), .d (.int (left + 1 : Nat)), .un, .un]) x2 (by omega) (eCons (eC (.int 2)) eNil) (n := 2) (by omega) (by omega) (fun _ => rfl)
      exact ⟨_, h3, _, mkFn_rt (np := 4) (n := 6) (as := [.own true h, .d (.int n), .d (.int t), .d (.int (left + 1 : Nat))]) rfl rfl (sSeq_rt ((sIf_t e3).trans (sRet_ok e4))), .inl (r_bit hr'), x3.mono (by omega)⟩
    · have hz' : ((r : Int) == 0) = false := by simpa using hz
      rw [hz'] at e3
      obtain ⟨xx, h3, e4, hx, x3⟩ := up2_ok (i := 0) (rest := [.d (.int n), .d (.int t), .d (.int (left + 1 : Nat)), .un, .un]) x2 (by omega) (eCons (eBin fIx (eLst (eCons (eC (.int 1)) (eCons (eC (.int 2)) (eCons (eC (.int 4)) (eCons (eC (.int 8)) (eCons (eC (.int 16)) (eNil))))))) (eVar 2)) (eNil)) (n := T) (by omega) (by omega) (fun h' => by
        have : t = 0 ∨ t = 1 ∨ t = 2 ∨ t = 3 ∨ t = 4 := by omega
        rcases this with rfl | rfl | rfl | rfl | rfl <;> (subst hT; rfl))
      have e5 := sSet_ok (i := 4) e4 rfl
      obtain ⟨ys, s', e6, l6, q6, h4, e7, x4⟩ := comp_inv (vs := [5]) (g := gNm 5) (tt := tYes') (te := te_law_tr_asker_1 (m_law_tr_asker f))
        (fun i sl => ∃ h', sl = [.own true h', .d (.int n), .d (.int t), .d (.int (left + 1 : Nat)), .d (.int xx), .un] ∧ Ht (k + 2 + Cask left * i) h') (fun _ y => AOk n t left y) (rangeD 0 N) 0 [.own true h3, .d (.int n), .d (.int t), .d (.int (left + 1 : Nat)), .d (.int xx), .un] ⟨h3, rfl, x3⟩ fun i y sl hi ⟨h', e, x'⟩ => by
        subst e
        obtain ⟨hi1, rfl⟩ := rangeD_get hi
        have hb : Cask left * (0 + i) + Cask left ≤ 8 * Cask left := by
          have : Cask left * (0 + i + 1) ≤ Cask left * 8 := Nat.mul_le_mul_left _ (by omega)
          rw [Nat.mul_succ] at this; omega
        obtain ⟨a, h5, o, e8, ha, x5⟩ := ih f (k + 2 + Cask left * (0 + i)) h' (by omega) x' (by omega)
        obtain ⟨g, s, c, rfl, _⟩ := x'
        have e9 := eCallIO_ok (fn := m_law_tr_asker f) (i := 0) (args := eCons (eVar 1) (eCons (eVar 2) (eCons (eBin fSub (eVar 3) (eC (.int 1))) (eNil)))) (sl := [.own true (.list [.int g, .int s, .int c]), .d (.int n), .d (.int t), .d (.int (left + 1 : Nat)), .d (.int xx), .d (.int (0 + (i : Nat)))]) (xs := [.int n, .int t, .int left]) rfl (by
          have : fSub (.int (left + 1 : Nat)) (.int 1) = some (.int left) := by show some (PyData.int _) = _; congr 2; omega
          exact eCons_ok rfl (eCons_ok rfl (eCons_ok (eBin_ok rfl rfl this) rfl))) rfl e8
        exact ⟨_, _, a, _, rfl, rfl, e9, ha, h5, rfl, by rw [show k + 2 + Cask left * (0 + i + 1) = k + 2 + Cask left * (0 + i) + Cask left by rw [Nat.mul_succ]; omega]; exact x5⟩
      subst e7
      rw [Nat.zero_add, rangeD_length] at x4
      rw [rangeD_length] at l6
      have e10 := comp_ok (range1_ok (e := eBin fIx (eLst (eCons (eC (.int 1)) (eCons (eC (.int 2)) (eCons (eC (.int 4)) (eCons (eC (.int 8)) (eNil)))))) (eVar 1)) (sl := [.own true h3, .d (.int n), .d (.int t), .d (.int (left + 1 : Nat)), .d (.int xx), .un]) (n := N) (by rcases hn with rfl | rfl | rfl <;> (subst hN; rfl)) (by omega)) (by rw [rangeD_length]; omega) rfl e6
      have e11 := sRet_ok (eTup_ok (eCons_ok (a := eVar 4) (sl := [.own true h3, .d (.int n), .d (.int t), .d (.int (left + 1 : Nat)), .d (.int xx), .un]) rfl (eCons_ok (eUn_ok (f := fTuple) e10 rfl) eNil_ok)) (Nat.le_of_ble_eq_true rfl))
      refine ⟨_, h4, _, mkFn_rt (np := 4) (n := 6) (as := [.own true h, .d (.int n), .d (.int t), .d (.int (left + 1 : Nat))]) rfl rfl ((sSeq_nx (sIf_f e3)).trans ((sSeq_nx e5).trans e11)), .inr ⟨xx, ys, rfl, by rw [← hT]; omega, by rw [l6, hN], get_all q6⟩, x4.mono ?_⟩
      have : Cask left * N ≤ Cask left * 8 := Nat.mul_le_mul_left _ hN8.2
      omega
/-- what stands at a place of others -/
def oth (j i : Nat) (p : Nat × Nat) : D := if i < j then pr p else if i = j then .none else .int (p.1 : Nat)
theorem oth_ok {n q j k : Nat} {h : D} (hn : n = 1 ∨ n = 2 ∨ n = 3) (hq : q ≤ 10) (x : Ht k h) (hk : k + 20 < 1000000000) :
    ∃ (l : List (Nat × Nat)) (h' : D) (o : Sl), m_law_tr_others [.own true h, .d (.int n), .d (.int q), .d (.int j)] = .ok (.tuple (l.mapIdx (oth j))) (.own true h' :: o) ∧ l.length = q ∧ (∀ p ∈ l, p.1 < 2 ^ n ∧ p.2 < 2 ^ n) ∧ Ht (k + 20) h' := by
  obtain ⟨N, hN, hN8⟩ : ∃ N, N = 2 ^ n ∧ 0 < N ∧ N ≤ 8 := by rcases hn with rfl | rfl | rfl <;> exact ⟨_, rfl, by decide, by decide⟩
  have e1 : sParN 4 5 (eBin fIx (eLst (eCons (eC (.int 1)) (eCons (eC (.int 2)) (eCons (eC (.int 4)) (eCons (eC (.int 8)) (eNil)))))) (eVar 1)) [.own true h, .d (.int n), .d (.int q), .d (.int j), .un, .un, .un, .un] = .nx [.own true h, .d (.int n), .d (.int q), .d (.int j), .d (.int N), .own false (.list []), .un, .un] := by
    rcases hn with rfl | rfl | rfl <;> (subst hN; rfl)
  obtain ⟨s', e2, h2, l, w6, w7, e3, hl, hlt, u6, u7, x2⟩ := sLoop_inv (g := gNm 6) (b := fb_law_tr_others_1)
    (fun i sl => ∃ h' l w6 w7, sl = [.own true h', .d (.int n), .d (.int q), .d (.int j), .d (.int N), .own false (.list (l.mapIdx (oth j))), w6, w7] ∧ l.length = i ∧ (∀ p ∈ l, p.1 < N ∧ p.2 < N) ∧ U w6 ∧ U w7 ∧ Ht (k + 2 * i) h') (rangeD 0 q) 0 [.own true h, .d (.int n), .d (.int q), .d (.int j), .d (.int N), .own false (.list []), .un, .un]
    ⟨h, [], _, _, rfl, rfl, fun _ z => (nomatch z), .un, .un, x⟩ fun i y sl hi ⟨h', l, w6, w7, e, hl, hlt, u6, u7, x'⟩ => by
      subst e
      obtain ⟨hi1, rfl⟩ := rangeD_get hi
      have eg : gNm 6 (.int (0 + (i : Nat))) [.own true h', .d (.int n), .d (.int q), .d (.int j), .d (.int N), .own false (.list (l.mapIdx (oth j))), w6, w7] = some [.own true h', .d (.int n), .d (.int q), .d (.int j), .d (.int N), .own false (.list (l.mapIdx (oth j))), .d (.int (i : Nat)), w7] := by
        rw [Int.zero_add]
        rcases u6 with rfl | ⟨_, rfl⟩ <;> rfl
      obtain ⟨r, h2, e2, hr, x2⟩ := up2_ok (i := 0) (rest := [.d (.int n), .d (.int q), .d (.int j), .d (.int N), .own false (.list (l.mapIdx (oth j))), .d (.int (i : Nat)), w7]) x' (by omega) (eCons (eVar 4) eNil) (n := N) (by omega) (by omega) (fun _ => rfl)
      obtain ⟨r', h3, e3, hr', x3⟩ := up2_ok (i := 0) (rest := [.d (.int n), .d (.int q), .d (.int j), .d (.int N), .own false (.list (l.mapIdx (oth j))), .d (.int (i : Nat)), w7]) x2 (by omega) (eCons (eVar 4) eNil) (n := N) (by omega) (by omega) (fun _ => rfl)
      have e4 := sSet_ok (i := 7) (eTup_ok (eCons_ok e2 (eCons_ok e3 eNil_ok)) (Nat.le_of_ble_eq_true rfl)) (by rcases u7 with rfl | ⟨_, rfl⟩ <;> rfl)
      have e5 : (eIf (tTru (eBin fLt (eVar 6) (eVar 3))) (eVar 7) (eIf (tTru (eBin fEq (eVar 6) (eVar 3))) (eC .none) (eBin fIx (eVar 7) (eC (.int 0))))) [.own true h3, .d (.int n), .d (.int q), .d (.int j), .d (.int N), .own false (.list (l.mapIdx (oth j))), .d (.int (i : Nat)), .d (pr (r, r'))] =
          .ok (oth j i (r, r')) [.own true h3, .d (.int n), .d (.int q), .d (.int j), .d (.int N), .own false (.list (l.mapIdx (oth j))), .d (.int (i : Nat)), .d (pr (r, r'))] := by
        have c1 := tTru_ok (eBin_ok (f := fLt) (a := eVar 6) (b := eVar 3) (sl := [.own true h3, .d (.int n), .d (.int q), .d (.int j), .d (.int N), .own false (.list (l.mapIdx (oth j))), .d (.int (i : Nat)), .d (pr (r, r'))]) rfl rfl lt_int) rfl
        have c2 := tTru_ok (eBin_ok (f := fEq) (a := eVar 6) (b := eVar 3) (sl := [.own true h3, .d (.int n), .d (.int q), .d (.int j), .d (.int N), .own false (.list (l.mapIdx (oth j))), .d (.int (i : Nat)), .d (pr (r, r'))]) rfl rfl eq_int) rfl
        by_cases c : i < j
        · rw [show (decide ((i : Int) < j)) = true by simpa using c] at c1
          rw [show oth j i (r, r') = pr (r, r') from if_pos c]
          exact (eIf_t c1).trans rfl
        · rw [show (decide ((i : Int) < j)) = false by simpa using c] at c1
          by_cases c' : i = j
          · rw [show ((i : Int) == j) = true by rw [beq_iff_eq]; omega] at c2
            rw [show oth j i (r, r') = .none from (if_neg c).trans (if_pos c')]
            exact (eIf_f c1).trans ((eIf_t c2).trans rfl)
          · rw [show ((i : Int) == j) = false from beq_eq_false_iff_ne.mpr (by omega)] at c2
            rw [show oth j i (r, r') = .int r from (if_neg c).trans (if_neg c')]
            exact (eIf_f c1).trans ((eIf_f c2).trans rfl)
      have e6 := sExpr_ok (eApp_ok (i := 5) (xs := l.mapIdx (oth j)) rfl e5 rfl (by rw [List.length_mapIdx]; omega))
      have ea : l.mapIdx (oth j) ++ [oth j i (r, r')] = (l ++ [(r, r')]).mapIdx (oth j) := by
        rw [List.mapIdx_append]
        simp
        rw [show l.length = i by omega]
      rw [ea] at e6
      refine ⟨_, _, eg, .inl ((sSeq_nx e4).trans e6), h3, l ++ [(r, r')], _, _, rfl, by rw [List.length_append]; simp; omega, fun p hp => ?_, .d, .d, by rw [show k + 2 * (0 + i + 1) = k + 2 * (0 + i) + 1 + 1 by omega]; exact x3⟩
      rcases List.mem_append.mp hp with hp | hp
      · exact hlt p hp
      · rw [List.mem_singleton.mp hp]
        exact ⟨by omega, by omega⟩
  subst e3
  rw [rangeD_length] at hl x2
  have e4 := (for_ok (b := fb_law_tr_others_1) (g := gNm 6) (range1_ok (e := eVar 2) (sl := [.own true h, .d (.int n), .d (.int q), .d (.int j), .d (.int N), .own false (.list []), .un, .un]) (n := q) rfl (by omega))).trans e2
  have eb : b_law_tr_others [.own true h, .d (.int n), .d (.int q), .d (.int j), .un, .un, .un, .un] = .rt (.tuple (l.mapIdx (oth j))) [.own true h2, .d (.int n), .d (.int q), .d (.int j), .d (.int N), .d (.list (l.mapIdx (oth j))), w6, w7] := (sSeq_nx e1).trans ((sSeq_nx e4).trans rfl)
  refine ⟨l, h2, _, mkFn_rt (np := 4) (n := 8) (as := [.own true h, .d (.int n), .d (.int q), .d (.int j)]) rfl rfl eb, by omega, fun p hp => by rw [← hN]; exact hlt p hp, x2.mono (by omega)⟩
/-! ### what is checked -/
theorem within_ok (a v b : Int) : m_is_within [.d (.int v), .d (.int a), .d (.int b)] = .ok (.bool (decide (a ≤ v) && decide (v ≤ b))) [.d (.int v), .d (.int a), .d (.int b)] := by
  simp [mkFn, sSeq, sSkip, sSet, sRet, sRetN, sIf, sExpr, sNew, sNewD, sPar, sParN, sFor, sAsg, sAug, RS.seq, R.bind, R.bindS, optR, eVar, eC, eBin, eUn, tTru, tAnd', tOr', tNot', eAnd, eOr, eIf, eNil, eCons, eTup, eLst, eChain, eCall, eCallIO, eIxO, eLenO, isOL, isScr, eIxS, eApp, eExt, sPut, free, nth, truth, gNm, gTp, gsCons, gsNil, fNot, fLt, fLe, fGt, fGe, fAdd, fSub, fInt, fLen, fAbs, fIsi, isT, tYes', List.replicate, m_is_within, m_is_whole, b_is_within, b_is_whole]
  by_cases h : a ≤ v <;> simp [h]
theorem within_tup (xs : List D) (a b : Int) : m_is_within [.d (.tuple xs), .d (.int a), .d (.int b)] = .ok (.bool false) [.d (.tuple xs), .d (.int a), .d (.int b)] := by
  simp [mkFn, sSeq, sSkip, sSet, sRet, sRetN, sIf, sExpr, sNew, sNewD, sPar, sParN, sFor, sAsg, sAug, RS.seq, R.bind, R.bindS, optR, eVar, eC, eBin, eUn, tTru, tAnd', tOr', tNot', eAnd, eOr, eIf, eNil, eCons, eTup, eLst, eChain, eCall, eCallIO, eIxO, eLenO, isOL, isScr, eIxS, eApp, eExt, sPut, free, nth, truth, gNm, gTp, gsCons, gsNil, fNot, fLt, fLe, fGt, fGe, fAdd, fSub, fInt, fLen, fAbs, fIsi, isT, tYes', List.replicate, m_is_within, m_is_whole, b_is_within, b_is_whole]
theorem req_ok {a v b : Int} (h1 : a ≤ v) (h2 : v ≤ b) : m_require_within [.d (.int v), .d (.int a), .d (.int b)] = .ok .none [.d (.int v), .d (.int a), .d (.int b)] := by
  simp [mkFn, sSeq, sSkip, sSet, sRet, sRetN, sIf, sExpr, sNew, sNewD, sPar, sParN, sFor, sAsg, sAug, RS.seq, R.bind, R.bindS, optR, eVar, eC, eBin, eUn, tTru, tAnd', tOr', tNot', eAnd, eOr, eIf, eNil, eCons, eTup, eLst, eChain, eCall, eCallIO, eIxO, eLenO, isOL, isScr, eIxS, eApp, eExt, sPut, free, nth, truth, gNm, gTp, gsCons, gsNil, fNot, fLt, fLe, fGt, fGe, fAdd, fSub, fInt, fLen, fAbs, fIsi, isT, tYes', List.replicate, m_require_within, b_require_within, within_ok, h1, h2]
theorem isbit_bit {a : D} (h : bitD a) : m_is_bit [.d a] = .ok (.bool true) [.d a] := by
  rcases h with rfl | rfl <;> simp [mkFn, sSeq, sSkip, sSet, sRet, sRetN, sIf, sExpr, sNew, sNewD, sPar, sParN, sFor, sAsg, sAug, RS.seq, R.bind, R.bindS, optR, eVar, eC, eBin, eUn, tTru, tAnd', tOr', tNot', eAnd, eOr, eIf, eNil, eCons, eTup, eLst, eChain, eCall, eCallIO, eIxO, eLenO, isOL, isScr, eIxS, eApp, eExt, sPut, free, nth, truth, gNm, gTp, gsCons, gsNil, fNot, fLt, fLe, fGt, fGe, fAdd, fSub, fInt, fLen, fAbs, fIsi, isT, tYes', List.replicate, m_is_bit, b_is_bit, within_ok]
theorem isbit_tup (xs : List D) : m_is_bit [.d (.tuple xs)] = .ok (.bool false) [.d (.tuple xs)] := by
  simp [mkFn, sSeq, sSkip, sSet, sRet, sRetN, sIf, sExpr, sNew, sNewD, sPar, sParN, sFor, sAsg, sAug, RS.seq, R.bind, R.bindS, optR, eVar, eC, eBin, eUn, tTru, tAnd', tOr', tNot', eAnd, eOr, eIf, eNil, eCons, eTup, eLst, eChain, eCall, eCallIO, eIxO, eLenO, isOL, isScr, eIxS, eApp, eExt, sPut, free, nth, truth, gNm, gTp, gsCons, gsNil, fNot, fLt, fLe, fGt, fGe, fAdd, fSub, fInt, fLen, fAbs, fIsi, isT, tYes', List.replicate, m_is_bit, b_is_bit, within_tup]
theorem ne_int {i j : Int} : fNe (.int i) (.int j) = some (.bool (!(i == j))) := rfl
def W3 (n N : Nat) : Prop := (n = 1 ∨ n = 2 ∨ n = 3) ∧ N = 2 ^ n
theorem W3.le {n N : Nat} (h : W3 n N) : 2 ≤ N ∧ N ≤ 8 := by
  obtain ⟨h, rfl⟩ := h
  rcases h with rfl | rfl | rfl <;> exact ⟨by decide, by decide⟩
theorem W3.shl {n N : Nat} (h : W3 n N) : fShl (.int 1) (.int n) = some (.int N) := by
  obtain ⟨h, rfl⟩ := h
  rcases h with rfl | rfl | rfl <;> rfl
theorem shl_t {t : Nat} (h : t ≤ 4) : fShl (.int 1) (.int t) = some (.int (2 ^ t : Nat)) := by
  have : t = 0 ∨ t = 1 ∨ t = 2 ∨ t = 3 ∨ t = 4 := by omega
  rcases this with rfl | rfl | rfl | rfl | rfl <;> rfl
theorem pow_t {t : Nat} (h : t ≤ 4) : 0 < 2 ^ t ∧ 2 ^ t ≤ 16 := by
  have : t = 0 ∨ t = 1 ∨ t = 2 ∨ t = 3 ∨ t = 4 := by omega
  rcases this with rfl | rfl | rfl | rfl | rfl <;> exact ⟨by decide, by decide⟩
/-- x in 0 .. 2 ** n - 1 -/
theorem word_ok {n N i : Nat} {sl : Sl} {x : Nat} (h : W3 n N) (h0 : nth sl 0 = .d (.int n)) (hi : nth sl i = .d (.int (x : Nat))) (hx : x < N) : eCall m_is_within (eCons (eVar i) (eCons (eC (.int 0)) (eCons (eBin fSub (eBin fShl (eC (.int 1)) (eVar 0)) (eC (.int 1))) (eNil)))) sl = .ok (.bool true) sl := by
  simp [mkFn, sSeq, sSkip, sSet, sRet, sRetN, sIf, sExpr, sNew, sNewD, sPar, sParN, sFor, sAsg, sAug, RS.seq, R.bind, R.bindS, optR, eVar, eC, eBin, eUn, tTru, tAnd', tOr', tNot', eAnd, eOr, eIf, eNil, eCons, eTup, eLst, eChain, eCall, eCallIO, eIxO, eLenO, isOL, isScr, eIxS, eApp, eExt, sPut, free, nth, truth, gNm, gTp, gsCons, gsNil, fNot, fLt, fLe, fGt, fGe, fAdd, fSub, fInt, fLen, fAbs, fIsi, isT, tYes', List.replicate, h0, hi, h.shl, within_ok]
  omega
theorem pairw_ok {n N : Nat} (h : W3 n N) {p : Nat × Nat} (hp : p.1 < N ∧ p.2 < N) : ∃ o, m_is_pair_of_words [.d (.int n), .d (pr p)] = .ok (.bool true) o := by
  have e1 := comp_map (vs := [2]) (g := gNm 2) (tt := tYes') (te := te_is_pair_of_words_1) (fun _ => .bool true) [.d (.int n), .d (pr p), .un] [.int (p.1 : Nat), .int (p.2 : Nat)] fun d hd => by
    have : ∃ x : Nat, d = .int x ∧ x < N := by
      rcases List.mem_cons.mp hd with rfl | hd
      · exact ⟨_, rfl, hp.1⟩
      · exact ⟨_, List.mem_singleton.mp hd, hp.2⟩
    obtain ⟨x, rfl, hx⟩ := this
    exact ⟨_, _, _, rfl, rfl, word_ok (i := 2) (x := x) h rfl rfl hx, rfl⟩
  have e2 := comp_ok (itemsT_ok (e := eVar 1) (sl := [.d (.int n), .d (pr p), .un]) rfl) (Nat.le_of_ble_eq_true rfl) rfl e1
  have e3 := sRet_ok (eUn_ok (f := fAll) e2 (all_true _))
  exact ⟨_, mkFn_rt (np := 2) (n := 3) (as := [.d (.int n), .d (pr p)]) rfl rfl ((sSeq_nx (show sIf _ _ _ _ = .nx _ from rfl)).trans e3)⟩
theorem reqdbl_ok {n N : Nat} (h : W3 n N) {l : List (Nat × Nat)} (hl : Dbl N l) : ∃ o, m_require_doubling [.d (.int n), .d (.tuple (l.map pr))] = .ok .none o := by
  have hn : (1 : Int) ≤ n ∧ (n : Int) ≤ 3 := by rcases h.1 with rfl | rfl | rfl <;> decide
  have e1 := sExpr_ok (eCall_ok (args := eCons (eVar 0) (eCons (eC (.int 1)) (eCons (eC (.int 3)) (eNil)))) (sl := [.d (.int n), .d (.tuple (l.map pr)), .un]) (xs := [.int n, .int 1, .int 3]) rfl (req_ok hn.1 hn.2))
  have c1 := tTru_ok (eBin_ok (f := fNe) (a := eUn fLen (eVar 1)) (b := eBin fShl (eC (.int 1)) (eVar 0)) (sl := [.d (.int n), .d (.tuple (l.map pr)), .un]) rfl (eBin_ok rfl rfl h.shl) ne_int) rfl
  rw [show (!(((l.map pr).length : Int) == (N : Int))) = false by rw [List.length_map, hl.1]; simp] at c1
  have e2 : sIf (tOr' (tNot' (tTru (eUn (fIsi .tuple) (eVar 1)))) (tTru (eBin fNe (eUn fLen (eVar 1)) (eBin fShl (eC (.int 1)) (eVar 0))))) (sNever) (sSkip) [.d (.int n), .d (.tuple (l.map pr)), .un] = .nx [.d (.int n), .d (.tuple (l.map pr)), .un] := (sIf_f ((tOr_f rfl).trans c1)).trans rfl
  have e3 := comp_map (vs := [2]) (g := gNm 2) (tt := tYes') (te := te_require_doubling_1) (fun _ => .bool true) [.d (.int n), .d (.tuple (l.map pr)), .un] (l.map pr) fun d hd => by
    obtain ⟨p, hp, rfl⟩ := List.mem_map.mp hd
    obtain ⟨o, e⟩ := pairw_ok h (hl.2 p hp)
    exact ⟨_, _, _, rfl, rfl, eCall_ok (args := eCons (eVar 0) (eCons (eVar 2) (eNil))) (xs := [.int n, pr p]) rfl e, rfl⟩
  have e4 := comp_ok (itemsT_ok (e := eVar 1) (sl := [.d (.int n), .d (.tuple (l.map pr)), .un]) rfl) (by have := h.le; rw [List.length_map, hl.1]; omega) rfl e3
  have e5 := sNever_not (tTru_ok (eUn_ok (f := fAll) e4 (all_true _)) rfl)
  exact ⟨_, mkFn_nx (np := 2) (n := 3) (as := [.d (.int n), .d (.tuple (l.map pr))]) rfl rfl ((sSeq_nx e1).trans ((sSeq_nx e2).trans e5))⟩
theorem isask_ok {n N t : Nat} (h : W3 n N) (ht : t ≤ 4) : ∀ (left fuel : Nat) (a : D), left < fuel → AOk n t left a → ∃ o, m_is_asker_in fuel [.d (.int n), .d (.int t), .d a, .d (.int left)] = .ok (.bool true) o := by
  have bitc : ∀ (left f : Nat) (a : D), bitD a → ∃ o, m_is_asker_in (f + 1) [.d (.int n), .d (.int t), .d a, .d (.int left)] = .ok (.bool true) o := fun left f a ha => by
    have e1 := tTru_ok (eCall_ok (args := eCons (eVar 2) (eNil)) (sl := [.d (.int n), .d (.int t), .d a, .d (.int left), .un]) (xs := [a]) rfl (isbit_bit ha)) rfl
    exact ⟨_, mkFn_rt (np := 4) (n := 5) (as := [.d (.int n), .d (.int t), .d a, .d (.int left)]) rfl rfl (sSeq_rt ((sIf_t e1).trans (sRet_ok rfl)))⟩
  intro left
  induction left with
  | zero =>
    intro fuel a hf ha
    obtain ⟨f, rfl⟩ : ∃ f, fuel = f + 1 := ⟨fuel - 1, by omega⟩
    exact bitc 0 f a ha
  | succ left ih =>
    intro fuel a hf ha
    obtain ⟨f, rfl⟩ : ∃ f, fuel = f + 1 := ⟨fuel - 1, by omega⟩
    rcases ha with ha | ⟨x, ks, rfl, hx, hl, hk⟩
    · exact bitc _ f a ha
    have e1 := tTru_ok (eCall_ok (args := eCons (eVar 2) (eNil)) (sl := [.d (.int n), .d (.int t), .d (.tuple [.int (x : Nat), .tuple ks]), .d (.int (left + 1 : Nat)), .un]) (xs := [.tuple [.int (x : Nat), .tuple ks]]) rfl (isbit_tup _)) rfl
    have c0 : tTru (eBin fEq (eVar 3) (eC (.int 0))) [.d (.int n), .d (.int t), .d (.tuple [.int (x : Nat), .tuple ks]), .d (.int (left + 1 : Nat)), .un] = .ok false [.d (.int n), .d (.int t), .d (.tuple [.int (x : Nat), .tuple ks]), .d (.int (left + 1 : Nat)), .un] := by
      have e := tTru_ok (eBin_ok (f := fEq) (a := eVar 3) (b := eC (.int 0)) (sl := [.d (.int n), .d (.int t), .d (.tuple [.int (x : Nat), .tuple ks]), .d (.int (left + 1 : Nat)), .un]) rfl rfl eq_int) rfl
      rw [show (((left + 1 : Nat) : Int) == 0) = false from beq_eq_false_iff_ne.mpr (by omega)] at e
      exact e
    have c1 := tNot_ok (tTru_ok (eCall_ok (args := eCons (eBin fIx (eVar 2) (eC (.int 0))) (eCons (eC (.int 0)) (eCons (eBin fSub (eBin fShl (eC (.int 1)) (eVar 1)) (eC (.int 1))) (eNil)))) (sl := [.d (.int n), .d (.int t), .d (.tuple [.int (x : Nat), .tuple ks]), .d (.int (left + 1 : Nat)), .un]) (xs := [.int x, .int 0, .int ((2 ^ t : Nat) - 1)]) (eCons_ok rfl (eCons_ok rfl (eCons_ok (eBin_ok (eBin_ok rfl rfl (shl_t ht)) rfl rfl) rfl))) (within_ok _ _ _)) rfl)
    rw [show (decide ((0 : Int) ≤ (x : Int)) && decide ((x : Int) ≤ ((2 ^ t : Nat) : Int) - 1)) = true by simp only [Bool.and_eq_true, decide_eq_true_eq]; omega] at c1
    have e2 : sIf (tOr' (tNot' (tTru (eUn (fIsi .tuple) (eVar 2)))) (tOr' (tTru (eBin fNe (eUn fLen (eVar 2)) (eC (.int 2)))) (tOr' (tTru (eBin fEq (eVar 3) (eC (.int 0)))) (tNot' (tTru (eCall m_is_within (eCons (eBin fIx (eVar 2) (eC (.int 0))) (eCons (eC (.int 0)) (eCons (eBin fSub (eBin fShl (eC (.int 1)) (eVar 1)) (eC (.int 1))) (eNil)))))))))) (sRet (eC (.bool false))) (sSkip) [.d (.int n), .d (.int t), .d (.tuple [.int (x : Nat), .tuple ks]), .d (.int (left + 1 : Nat)), .un] = .nx [.d (.int n), .d (.int t), .d (.tuple [.int (x : Nat), .tuple ks]), .d (.int (left + 1 : Nat)), .un] :=
      (sIf_f ((tOr_f rfl).trans ((tOr_f rfl).trans ((tOr_f c0).trans c1)))).trans rfl
    have c2 := tTru_ok (eBin_ok (f := fNe) (a := eUn fLen (eBin fIx (eVar 2) (eC (.int 1)))) (b := eBin fShl (eC (.int 1)) (eVar 0)) (sl := [.d (.int n), .d (.int t), .d (.tuple [.int (x : Nat), .tuple ks]), .d (.int (left + 1 : Nat)), .un]) rfl (eBin_ok rfl rfl h.shl) ne_int) rfl
    rw [show (!((ks.length : Int) == (N : Int))) = false by rw [hl, ← h.2]; simp] at c2
    have e3 : sIf (tOr' (tNot' (tTru (eUn (fIsi .tuple) (eBin fIx (eVar 2) (eC (.int 1)))))) (tTru (eBin fNe (eUn fLen (eBin fIx (eVar 2) (eC (.int 1)))) (eBin fShl (eC (.int 1)) (eVar 0))))) (sRet (eC (.bool false))) (sSkip) [.d (.int n), .d (.int t), .d (.tuple [.int (x : Nat), .tuple ks]), .d (.int (left + 1 : Nat)), .un] = .nx [.d (.int n), .d (.int t), .d (.tuple [.int (x : Nat), .tuple ks]), .d (.int (left + 1 : Nat)), .un] :=
      (sIf_f ((tOr_f rfl).trans c2)).trans rfl
    have e4 := comp_map (vs := [4]) (g := gNm 4) (tt := tYes') (te := te_is_asker_in_1 (m_is_asker_in f)) (fun _ => .bool true) [.d (.int n), .d (.int t), .d (.tuple [.int (x : Nat), .tuple ks]), .d (.int (left + 1 : Nat)), .un] ks fun d hd => by
      obtain ⟨o, e⟩ := ih f d (by omega) (hk d hd)
      have hs : fSub (.int (left + 1 : Nat)) (.int 1) = some (.int left) := by show some (PyData.int _) = _; congr 2; omega
      exact ⟨_, _, _, rfl, rfl, eCall_ok (args := eCons (eVar 0) (eCons (eVar 1) (eCons (eVar 4) (eCons (eBin fSub (eVar 3) (eC (.int 1))) (eNil))))) (xs := [.int n, .int t, d, .int left]) (eCons_ok rfl (eCons_ok rfl (eCons_ok rfl (eCons_ok (eBin_ok rfl rfl hs) rfl)))) e, rfl⟩
    have e5 := comp_ok (itemsT_ok (e := eBin fIx (eVar 2) (eC (.int 1))) (sl := [.d (.int n), .d (.int t), .d (.tuple [.int (x : Nat), .tuple ks]), .d (.int (left + 1 : Nat)), .un]) rfl) (by have := h.le; rw [hl, ← h.2]; omega) rfl e4
    have e6 := sRet_ok (eUn_ok (f := fAll) e5 (all_true _))
    exact ⟨_, mkFn_rt (np := 4) (n := 5) (as := [.d (.int n), .d (.int t), .d (.tuple [.int (x : Nat), .tuple ks]), .d (.int (left + 1 : Nat))]) rfl rfl ((sSeq_nx ((sIf_f e1).trans rfl)).trans ((sSeq_nx e2).trans ((sSeq_nx e3).trans e6)))⟩
theorem AOk.succ {n t : Nat} : ∀ {l : Nat} {a : D}, AOk n t l a → AOk n t (l + 1) a
  | 0, _, h => .inl h
  | l + 1, _, .inl h => .inl h
  | l + 1, _, .inr ⟨x, ks, e, hx, hl, hk⟩ => .inr ⟨x, ks, e, hx, hl, fun c hc => AOk.succ (hk c hc)⟩
theorem AOk.three {n t l : Nat} {a : D} (h : AOk n t l a) (hl : l ≤ 3) : AOk n t 3 a := by
  have : l = 0 ∨ l = 1 ∨ l = 2 ∨ l = 3 := by omega
  rcases this with rfl | rfl | rfl | rfl
  · exact h.succ.succ.succ
  · exact h.succ.succ
  · exact h.succ
  · exact h
/-- the most questions -/
def qn : Nat → D → Nat
  | 0, _ => 0
  | l + 1, .tuple [_, .tuple ks] => 1 + (ks.map (qn l)).foldr max 0
  | _ + 1, _ => 0
theorem qn_bit {l : Nat} {a : D} (h : bitD a) : qn l a = 0 := by
  cases l with
  | zero => rfl
  | succ l => rcases h with rfl | rfl <;> rfl
theorem qn_ok {n N t : Nat} (h : W3 n N) : ∀ (left fuel : Nat) (a : D), left < fuel → AOk n t left a → ∃ o, m_questions_in fuel [.d a] = .ok (.int (qn left a : Nat)) o := by
  have bitc : ∀ (left f : Nat) (a : D), bitD a → ∃ o, m_questions_in (f + 1) [.d a] = .ok (.int (qn left a : Nat)) o := fun left f a ha => by
    have e1 := tTru_ok (eCall_ok (args := eCons (eVar 0) (eNil)) (sl := [.d a, .un]) (xs := [a]) rfl (isbit_bit ha)) rfl
    rw [qn_bit ha]
    exact ⟨_, mkFn_rt (np := 1) (n := 2) (as := [.d a]) rfl rfl (sRet_ok ((eIf_t e1).trans rfl))⟩
  intro left
  induction left with
  | zero =>
    intro fuel a hf ha
    obtain ⟨f, rfl⟩ : ∃ f, fuel = f + 1 := ⟨fuel - 1, by omega⟩
    exact bitc 0 f a ha
  | succ left ih =>
    intro fuel a hf ha
    obtain ⟨f, rfl⟩ : ∃ f, fuel = f + 1 := ⟨fuel - 1, by omega⟩
    rcases ha with ha | ⟨x, ks, rfl, hx, hl, hk⟩
    · exact bitc _ f a ha
    have e1 := tTru_ok (eCall_ok (args := eCons (eVar 0) (eNil)) (sl := [.d (.tuple [.int (x : Nat), .tuple ks]), .un]) (xs := [.tuple [.int (x : Nat), .tuple ks]]) rfl (isbit_tup _)) rfl
    have e2 := comp_map (vs := [1]) (g := gNm 1) (tt := tYes') (te := te_questions_in_1 (m_questions_in f)) (fun c => .int (qn left c : Nat)) [.d (.tuple [.int (x : Nat), .tuple ks]), .un] ks fun d hd => by
      obtain ⟨o, e⟩ := ih f d (by omega) (hk d hd)
      exact ⟨_, _, _, rfl, rfl, eCall_ok (args := eCons (eVar 1) (eNil)) (xs := [d]) rfl e, rfl⟩
    have h8 := h.le
    have hl8 : ks.length = N := by rw [hl, h.2]
    have e3 := comp_ok (itemsT_ok (e := eBin fIx (eVar 0) (eC (.int 1))) (sl := [.d (.tuple [.int (x : Nat), .tuple ks]), .un]) rfl) (by omega) rfl e2
    have em : fMax (.list (ks.map fun c => PyData.int (qn left c : Nat))) = some (.int ((ks.map (qn left)).foldr max 0 : Nat)) := by
      have := max_ok (xs := ks.map (qn left)) (by intro z; have := congrArg List.length z; simp at this; rw [this] at hl8; simp at hl8; omega)
      rw [List.map_map] at this
      exact this
    have e4 := eBin_ok (f := fAdd) (a := eC (.int 1)) (sl := [.d (.tuple [.int (x : Nat), .tuple ks]), .un]) rfl (eUn_ok (f := fMax) e3 em) (show fAdd (.int 1) (.int _) = some (.int _) from rfl)
    have e5 := sRet_ok ((eIf_f (a := eC (.int 0)) e1).trans e4)
    rw [show (1 : Int) + ((ks.map (qn left)).foldr max 0 : Nat) = (qn (left + 1) (.tuple [.int (x : Nat), .tuple ks]) : Nat) by
      show _ = ((1 + (ks.map (qn left)).foldr max 0 : Nat) : Int)
      omega] at e5
    exact ⟨_, mkFn_rt (np := 1) (n := 2) (as := [.d (.tuple [.int (x : Nat), .tuple ks])]) rfl rfl e5⟩
theorem qn_le {n t : Nat} : ∀ {l : Nat} {a : D}, AOk n t l a → qn l a ≤ l
  | 0, a, h => Nat.le_refl 0
  | l + 1, a, .inl h => by rw [qn_bit h]; omega
  | l + 1, _, .inr ⟨x, ks, rfl, hx, hl, hk⟩ => by
    show 1 + (ks.map (qn l)).foldr max 0 ≤ l + 1
    have : ∀ (r : List Nat), (∀ y ∈ r, y ≤ l) → r.foldr max 0 ≤ l := by
      intro r
      induction r with
      | nil => intro _; exact Nat.zero_le _
      | cons y r ih =>
        intro hy
        exact Nat.max_le.mpr ⟨hy y List.mem_cons_self, ih fun z hz => hy z (List.mem_cons_of_mem _ hz)⟩
    have := this (ks.map (qn l)) fun y hy => by
      obtain ⟨c, hc, rfl⟩ := List.mem_map.mp hy
      exact qn_le (hk c hc)
    omega
theorem qn_kid {l : Nat} {x : D} {ks : List D} {c : D} (hc : c ∈ ks) : qn l c + 1 ≤ qn (l + 1) (.tuple [x, .tuple ks]) := by
  show qn l c + 1 ≤ 1 + (ks.map (qn l)).foldr max 0
  have := foldr_max_le (List.mem_map.mpr ⟨c, hc, rfl⟩ : qn l c ∈ ks.map (qn l))
  omega
theorem reqask_ok {n N t : Nat} (h : W3 n N) (ht : t ≤ 4) {a : D} (ha : AOk n t 3 a) : ∃ o, m_require_asker [.d (.int n), .d (.int t), .d a] = .ok .none o := by
  obtain ⟨o, e⟩ := isask_ok h ht 3 5 a (by decide) ha
  have e1 := sNever_not (tTru_ok (eCall_ok (args := eCons (eVar 0) (eCons (eVar 1) (eCons (eVar 2) (eCons (eC (.int 3)) (eNil))))) (sl := [.d (.int n), .d (.int t), .d a]) (xs := [.int n, .int t, a, .int (3 : Nat)]) rfl e) rfl)
  exact ⟨_, mkFn_nx (np := 3) (n := 3) (as := [.d (.int n), .d (.int t), .d a]) rfl rfl e1⟩
theorem quest_ok {n N t : Nat} (h : W3 n N) (ht : 1 ≤ t ∧ t ≤ 4) {a : D} (ha : AOk n t 3 a) : ∃ o, m_questions [.d (.int n), .d (.int t), .d a] = .ok (.int (qn 3 a : Nat)) o := by
  have hn : (1 : Int) ≤ n ∧ (n : Int) ≤ 3 := by rcases h.1 with rfl | rfl | rfl <;> decide
  obtain ⟨o, e⟩ := reqask_ok h ht.2 ha
  obtain ⟨o2, e2⟩ := qn_ok (t := t) h 3 5 a (by decide) ha
  have e1 := sExpr_ok (eCall_ok (args := eCons (eVar 0) (eCons (eC (.int 1)) (eCons (eC (.int 3)) (eNil)))) (sl := [.d (.int n), .d (.int t), .d a]) (xs := [.int n, .int 1, .int 3]) rfl (req_ok hn.1 hn.2))
  have e3 := sExpr_ok (eCall_ok (args := eCons (eVar 1) (eCons (eC (.int 1)) (eCons (eC (.int 4)) (eNil)))) (sl := [.d (.int n), .d (.int t), .d a]) (xs := [.int t, .int 1, .int 4]) rfl (req_ok (by omega) (by omega)))
  have e4 := sExpr_ok (eCall_ok (args := eCons (eVar 0) (eCons (eVar 1) (eCons (eVar 2) (eNil)))) (sl := [.d (.int n), .d (.int t), .d a]) (xs := [.int n, .int t, a]) rfl e)
  have e5 := sRet_ok (eCall_ok (args := eCons (eVar 2) (eNil)) (sl := [.d (.int n), .d (.int t), .d a]) (xs := [a]) rfl e2)
  exact ⟨_, mkFn_rt (np := 3) (n := 3) (as := [.d (.int n), .d (.int t), .d a]) rfl rfl ((sSeq_nx e1).trans ((sSeq_nx e3).trans ((sSeq_nx e4).trans e5)))⟩
theorem reqall_ok {n N t : Nat} (h : W3 n N) (ht : 1 ≤ t ∧ t ≤ 4) {l : List (Nat × Nat)} (hl : Dbl N l) {a : D} (ha : AOk n t 3 a) : ∃ o, m_require_all [.d (.int n), .d (.tuple (l.map pr)), .d (.int t), .d a] = .ok .none o := by
  obtain ⟨o, e⟩ := reqask_ok h ht.2 ha
  obtain ⟨o2, e2⟩ := reqdbl_ok h hl
  have e1 := sExpr_ok (eCall_ok (args := eCons (eVar 0) (eCons (eVar 1) (eNil))) (sl := [.d (.int n), .d (.tuple (l.map pr)), .d (.int t), .d a]) (xs := [.int n, .tuple (l.map pr)]) rfl e2)
  have e3 := sExpr_ok (eCall_ok (args := eCons (eVar 2) (eCons (eC (.int 1)) (eCons (eC (.int 4)) (eNil)))) (sl := [.d (.int n), .d (.tuple (l.map pr)), .d (.int t), .d a]) (xs := [.int t, .int 1, .int 4]) rfl (req_ok (by omega) (by omega)))
  have e4 := sExpr_ok (eCall_ok (args := eCons (eVar 0) (eCons (eVar 2) (eCons (eVar 3) (eNil)))) (sl := [.d (.int n), .d (.tuple (l.map pr)), .d (.int t), .d a]) (xs := [.int n, .int t, a]) rfl e)
  exact ⟨_, mkFn_nx (np := 4) (n := 4) (as := [.d (.int n), .d (.tuple (l.map pr)), .d (.int t), .d a]) rfl rfl ((sSeq_nx e1).trans ((sSeq_nx e3).trans e4))⟩
theorem reqind_ok {n N t i j : Nat} (h : W3 n N) (hi : i < t) (ht : t ≤ 4) {a : D} (ha : AOk n t 3 a) (hj : j < qn 3 a) : ∃ o, m_require_indices [.d (.int t), .d a, .d (.int i), .d (.int j)] = .ok .none o := by
  obtain ⟨o2, e2⟩ := qn_ok (t := t) h 3 5 a (by decide) ha
  have e1 := sExpr_ok (eCall_ok (args := eCons (eVar 2) (eCons (eC (.int 0)) (eCons (eBin fSub (eVar 0) (eC (.int 1))) (eNil)))) (sl := [.d (.int t), .d a, .d (.int i), .d (.int j)]) (xs := [.int i, .int 0, .int (t - 1)]) rfl (req_ok (by omega) (by omega)))
  have e3 := sExpr_ok (eCall_ok (args := eCons (eVar 3) (eCons (eC (.int 0)) (eCons (eBin fSub (eCall (m_questions_in 5) (eCons (eVar 1) (eNil))) (eC (.int 1))) (eNil)))) (sl := [.d (.int t), .d a, .d (.int i), .d (.int j)]) (xs := [.int j, .int 0, .int ((qn 3 a : Nat) - 1)]) (eCons_ok rfl (eCons_ok rfl (eCons_ok (eBin_ok (eCall_ok (xs := [a]) rfl e2) rfl rfl) rfl))) (req_ok (by omega) (by omega)))
  exact ⟨_, mkFn_nx (np := 4) (n := 4) (as := [.d (.int t), .d a, .d (.int i), .d (.int j)]) rfl rfl ((sSeq_nx e1).trans e3)⟩
theorem cutTo {xs : List D} {j : Nat} (h : j ≤ xs.length) : cutD xs none (some (j : Int)) = xs.take j := by
  unfold cutD
  rw [HT.sIx_none, HT.sIx_nat]
  simp
theorem cutFrom {xs : List D} {j : Nat} (h : j ≤ xs.length) : cutD xs (some (j : Int)) none = xs.drop j := by
  unfold cutD
  rw [HT.sIx_none, HT.sIx_nat, Nat.min_eq_left h]
  exact List.take_of_length_le (by rw [List.length_drop]; exact Nat.le_refl _)
theorem oth_get {l2 : List (Nat × Nat)} {j m : Nat} (hm : m < l2.length) : (l2.mapIdx (oth j))[m]? = some (oth j m (l2.getD m (0, 0))) := by
  rw [List.getElem?_mapIdx, List.getElem?_eq_getElem hm, List.getD_eq_getElem?_getD, List.getElem?_eq_getElem hm]
  rfl
theorem get_mem {α : Type} {l : List α} {m : Nat} {d : α} (hm : m < l.length) : l.getD m d ∈ l := by
  rw [List.getD_eq_getElem?_getD, List.getElem?_eq_getElem hm]
  exact List.getElem_mem _
theorem areoth_ok {n N q j : Nat} (h : W3 n N) {l2 : List (Nat × Nat)} (hq : l2.length = q) (hj : j < q) (hq3 : q ≤ 10) (hlt : ∀ p ∈ l2, p.1 < N ∧ p.2 < N) :
    ∃ o, m_are_others [.d (.int n), .d (.int q), .d (.int j), .d (.tuple (l2.mapIdx (oth j)))] = .ok (.bool true) o := by
  have sl := [W.d (.int n), .d (.int q), .d (.int j), .d (.tuple (l2.mapIdx (oth j))), .un, .un]
  have c1 := tTru_ok (eBin_ok (f := fNe) (a := eUn fLen (eVar 3)) (b := eVar 1) (sl := [.d (.int n), .d (.int q), .d (.int j), .d (.tuple (l2.mapIdx (oth j))), .un, .un]) rfl rfl ne_int) rfl
  rw [show (!(((l2.mapIdx (oth j)).length : Int) == (q : Int))) = false by rw [List.length_mapIdx, hq]; simp] at c1
  have c2 := tTru_ok (eBin_ok (f := fIsNot) (a := eBin fIx (eVar 3) (eVar 2)) (b := eC .none) (sl := [.d (.int n), .d (.int q), .d (.int j), .d (.tuple (l2.mapIdx (oth j))), .un, .un]) (eBin_ok rfl rfl (ix_ok (oth_get (m := j) (by omega)))) rfl rfl) rfl
  rw [show oth j j (l2.getD j (0, 0)) = .none from (if_neg (by omega)).trans (if_pos rfl)] at c2
  have e1 : sIf (tOr' (tNot' (tTru (eUn (fIsi .tuple) (eVar 3)))) (tOr' (tTru (eBin fNe (eUn fLen (eVar 3)) (eVar 1))) (tTru (eBin fIsNot (eBin fIx (eVar 3) (eVar 2)) (eC .none))))) (sRet (eC (.bool false))) (sSkip) [.d (.int n), .d (.int q), .d (.int j), .d (.tuple (l2.mapIdx (oth j))), .un, .un] = .nx [.d (.int n), .d (.int q), .d (.int j), .d (.tuple (l2.mapIdx (oth j))), .un, .un] :=
    (sIf_f ((tOr_f rfl).trans ((tOr_f c1).trans c2))).trans rfl
  have hl : (l2.mapIdx (oth j)).length = q := by rw [List.length_mapIdx, hq]
  have e2 := comp_map (vs := [4]) (g := gNm 4) (tt := tYes') (te := te_are_others_1) (fun _ => .bool true) [.d (.int n), .d (.int q), .d (.int j), .d (.tuple (l2.mapIdx (oth j))), .un, .un] ((l2.mapIdx (oth j)).take j) fun d hd => by
    obtain ⟨m, hm⟩ := List.mem_iff_getElem?.mp hd
    rw [List.getElem?_take] at hm
    split at hm
    · rename_i hmj
      rw [oth_get (by omega)] at hm
      have e := Option.some.inj hm
      rw [show oth j m (l2.getD m (0, 0)) = pr (l2.getD m (0, 0)) from if_pos hmj] at e
      subst e
      obtain ⟨o, e⟩ := pairw_ok h (hlt _ (get_mem (l := l2) (m := m) (d := (0, 0)) (by omega)))
      exact ⟨_, _, _, rfl, rfl, eCall_ok (args := eCons (eVar 0) (eCons (eVar 4) (eNil))) (xs := [.int n, pr (l2.getD m (0, 0))]) rfl e, rfl⟩
    · cases hm
  have e3 : eItems (eSl (eVar 3) eP0 (eP (eVar 2))) [.d (.int n), .d (.int q), .d (.int j), .d (.tuple (l2.mapIdx (oth j))), .un, .un] = .ok ((l2.mapIdx (oth j)).take j) [.d (.int n), .d (.int q), .d (.int j), .d (.tuple (l2.mapIdx (oth j))), .un, .un] := by
    have := cutTo (xs := l2.mapIdx (oth j)) (j := j) (by omega)
    exact itemsT_ok (show eSl (eVar 3) eP0 (eP (eVar 2)) _ = _ by rw [← this]; rfl)
  have e4 := comp_ok e3 (by rw [List.length_take]; omega) rfl e2
  have e5 : sIf (tNot' (tTru (eUn fAll (eComp (eItems (eSl (eVar 3) eP0 (eP (eVar 2)))) [4] (gNm 4) (tYes') (te_are_others_1))))) (sRet (eC (.bool false))) (sSkip) [.d (.int n), .d (.int q), .d (.int j), .d (.tuple (l2.mapIdx (oth j))), .un, .un] = .nx [.d (.int n), .d (.int q), .d (.int j), .d (.tuple (l2.mapIdx (oth j))), .un, .un] :=
    (sIf_f (tNot_ok (tTru_ok (eUn_ok (f := fAll) e4 (all_true _)) rfl))).trans rfl
  have e6 := comp_map (vs := [5]) (g := gNm 5) (tt := tYes') (te := te_are_others_2) (fun _ => .bool true) [.d (.int n), .d (.int q), .d (.int j), .d (.tuple (l2.mapIdx (oth j))), .un, .un] ((l2.mapIdx (oth j)).drop (j + 1)) fun d hd => by
    obtain ⟨m, hm⟩ := List.mem_iff_getElem?.mp hd
    rw [List.getElem?_drop] at hm
    have hlt' : j + 1 + m < l2.length := by
      have := (List.getElem?_eq_some_iff.mp hm).1
      omega
    rw [oth_get hlt'] at hm
    have e := Option.some.inj hm
    rw [show oth j (j + 1 + m) (l2.getD (j + 1 + m) (0, 0)) = .int ((l2.getD (j + 1 + m) (0, 0)).1 : Nat) from (if_neg (by omega)).trans (if_neg (by omega))] at e
    subst e
    exact ⟨_, _, _, rfl, rfl, word_ok (i := 5) h rfl rfl (hlt _ (get_mem (l := l2) (d := (0, 0)) hlt')).1, rfl⟩
  have e7 : eItems (eSl (eVar 3) (eP (eBin fAdd (eVar 2) (eC (.int 1)))) eP0) [.d (.int n), .d (.int q), .d (.int j), .d (.tuple (l2.mapIdx (oth j))), .un, .un] = .ok ((l2.mapIdx (oth j)).drop (j + 1)) [.d (.int n), .d (.int q), .d (.int j), .d (.tuple (l2.mapIdx (oth j))), .un, .un] := by
    have := cutFrom (xs := l2.mapIdx (oth j)) (j := j + 1) (by omega)
    exact itemsT_ok (show eSl (eVar 3) (eP (eBin fAdd (eVar 2) (eC (.int 1)))) eP0 _ = _ by rw [← this]; rfl)
  have e8 := comp_ok e7 (by rw [List.length_drop]; omega) rfl e6
  have e9 := sRet_ok (eUn_ok (f := fAll) e8 (all_true _))
  exact ⟨_, mkFn_rt (np := 4) (n := 6) (as := [.d (.int n), .d (.int q), .d (.int j), .d (.tuple (l2.mapIdx (oth j)))]) rfl rfl ((sSeq_nx e1).trans ((sSeq_nx e5).trans e9))⟩
theorem arebits_ok {xs : List D} (hx : ∀ y ∈ xs, bitD y) (hl : xs.length ≤ 1000) : ∃ o, m_are_bits [.d (.tuple xs), .d (.int xs.length)] = .ok (.bool true) o := by
  have e1 := comp_map (vs := [2]) (g := gNm 2) (tt := tYes') (te := te_are_bits_1) (fun _ => .bool true) [.d (.tuple xs), .d (.int xs.length), .un] xs fun d hd =>
    ⟨_, _, _, rfl, rfl, eCall_ok (args := eCons (eVar 2) (eNil)) (xs := [d]) rfl (isbit_bit (hx d hd)), rfl⟩
  have e2 := comp_ok (itemsT_ok (e := eVar 0) (sl := [.d (.tuple xs), .d (.int xs.length), .un]) rfl) (by omega) rfl e1
  have e3 := eUn_ok (f := fAll) e2 (all_true _)
  have e4 := eBin_ok (f := fEq) (a := eUn fLen (eVar 0)) (b := eVar 1) (sl := [.d (.tuple xs), .d (.int xs.length), .un]) rfl rfl eq_int
  rw [beq_self_eq_true] at e4
  exact ⟨_, mkFn_rt (np := 2) (n := 3) (as := [.d (.tuple xs), .d (.int xs.length)]) rfl rfl (sRet_ok ((eAnd_t (a := eUn (fIsi .tuple) (eVar 0)) rfl).trans ((eAnd_t e4).trans e3)))⟩
/-! ### one step of the run -/
def bel (l l2 : List (Nat × Nat)) (j : Nat) (p : Nat × Nat) (ix : Nat) : Nat × Nat := if ix = j then p else if ix < j then l2.getD ix (0, 0) else l.getD (l2.getD ix (0, 0)).1 (0, 0)
theorem pr_get {l : List (Nat × Nat)} {w : Nat} (hw : w < l.length) : (l.map pr)[w]? = some (pr (l.getD w (0, 0))) := by
  rw [List.getElem?_map, List.getElem?_eq_getElem hw, List.getD_eq_getElem?_getD, List.getElem?_eq_getElem hw]
  rfl
theorem bel_lt {N : Nat} {l l2 : List (Nat × Nat)} {j ix : Nat} {p : Nat × Nat} (hl : Dbl N l) (hix : ix < l2.length) (hlt : ∀ p ∈ l2, p.1 < N ∧ p.2 < N) (hp : p.1 < N ∧ p.2 < N) : (bel l l2 j p ix).1 < N ∧ (bel l l2 j p ix).2 < N := by
  have h2 := hlt _ (get_mem (l := l2) (d := (0, 0)) hix)
  unfold bel
  split
  · exact hp
  · split
    · exact h2
    · exact hl.2 _ (get_mem (l := l) (d := (0, 0)) (by rw [hl.1]; exact h2.1))
theorem below_ok {N i j ix : Nat} {l l2 : List (Nat × Nat)} {p : Nat × Nat} (hl : Dbl N l) (hix : ix < l2.length) (hlt : ∀ p ∈ l2, p.1 < N ∧ p.2 < N) :
    ∃ o, m_below_in [.d (.tuple (l.map pr)), .d (.tuple [.int (i : Nat), .int (j : Nat), .tuple (l2.mapIdx (oth j))]), .d (pr p), .d (.int ix)] = .ok (pr (bel l l2 j p ix)) o := by
  have h2 := hlt _ (get_mem (l := l2) (d := (0, 0)) hix)
  have e0 : sAsg (eVar 1) (gTp 3 (gsCons (gNm 4) (gsCons (gNm 5) (gsCons (gNm 6) gsNil)))) [.d (.tuple (l.map pr)), .d (.tuple [.int (i : Nat), .int (j : Nat), .tuple (l2.mapIdx (oth j))]), .d (pr p), .d (.int ix), .un, .un, .un] =
    .nx [.d (.tuple (l.map pr)), .d (.tuple [.int (i : Nat), .int (j : Nat), .tuple (l2.mapIdx (oth j))]), .d (pr p), .d (.int ix), .d (.int (i : Nat)), .d (.int (j : Nat)), .d (.tuple (l2.mapIdx (oth j)))] := rfl
  have c1 := tTru_ok (eBin_ok (f := fEq) (a := eVar 3) (b := eVar 5) (sl := [.d (.tuple (l.map pr)), .d (.tuple [.int (i : Nat), .int (j : Nat), .tuple (l2.mapIdx (oth j))]), .d (pr p), .d (.int ix), .d (.int (i : Nat)), .d (.int (j : Nat)), .d (.tuple (l2.mapIdx (oth j)))]) rfl rfl eq_int) rfl
  have c2 := tTru_ok (eBin_ok (f := fLt) (a := eVar 3) (b := eVar 5) (sl := [.d (.tuple (l.map pr)), .d (.tuple [.int (i : Nat), .int (j : Nat), .tuple (l2.mapIdx (oth j))]), .d (pr p), .d (.int ix), .d (.int (i : Nat)), .d (.int (j : Nat)), .d (.tuple (l2.mapIdx (oth j)))]) rfl rfl lt_int) rfl
  have e1 := eBin_ok (f := fIx) (a := eVar 6) (b := eVar 3) (sl := [.d (.tuple (l.map pr)), .d (.tuple [.int (i : Nat), .int (j : Nat), .tuple (l2.mapIdx (oth j))]), .d (pr p), .d (.int ix), .d (.int (i : Nat)), .d (.int (j : Nat)), .d (.tuple (l2.mapIdx (oth j)))]) rfl rfl (ix_ok (oth_get (j := j) hix))
  unfold bel
  by_cases c : ix = j
  · rw [show ((ix : Int) == j) = true by rw [beq_iff_eq]; omega] at c1
    rw [if_pos c]
    exact ⟨_, mkFn_rt (np := 4) (n := 7) (as := [.d (.tuple (l.map pr)), .d (.tuple [.int (i : Nat), .int (j : Nat), .tuple (l2.mapIdx (oth j))]), .d (pr p), .d (.int ix)]) rfl rfl ((sSeq_nx e0).trans (sSeq_rt ((sIf_t c1).trans (sRet_ok rfl))))⟩
  · rw [show ((ix : Int) == j) = false from beq_eq_false_iff_ne.mpr (by omega)] at c1
    rw [if_neg c]
    by_cases c' : ix < j
    · rw [show (decide ((ix : Int) < j)) = true by simpa using c'] at c2
      rw [if_pos c']
      rw [show oth j ix (l2.getD ix (0, 0)) = pr (l2.getD ix (0, 0)) from if_pos c'] at e1
      exact ⟨_, mkFn_rt (np := 4) (n := 7) (as := [.d (.tuple (l.map pr)), .d (.tuple [.int (i : Nat), .int (j : Nat), .tuple (l2.mapIdx (oth j))]), .d (pr p), .d (.int ix)]) rfl rfl ((sSeq_nx e0).trans ((sSeq_nx ((sIf_f c1).trans rfl)).trans (sRet_ok ((eIf_t c2).trans e1))))⟩
    · rw [show (decide ((ix : Int) < j)) = false by simpa using c'] at c2
      rw [if_neg c']
      rw [show oth j ix (l2.getD ix (0, 0)) = .int ((l2.getD ix (0, 0)).1 : Nat) from (if_neg c').trans (if_neg c)] at e1
      have e2 := eBin_ok (f := fIx) (a := eVar 0) (sl := [.d (.tuple (l.map pr)), .d (.tuple [.int (i : Nat), .int (j : Nat), .tuple (l2.mapIdx (oth j))]), .d (pr p), .d (.int ix), .d (.int (i : Nat)), .d (.int (j : Nat)), .d (.tuple (l2.mapIdx (oth j)))]) rfl e1 (ix_ok (pr_get (l := l) (by rw [hl.1]; exact h2.1)))
      exact ⟨_, mkFn_rt (np := 4) (n := 7) (as := [.d (.tuple (l.map pr)), .d (.tuple [.int (i : Nat), .int (j : Nat), .tuple (l2.mapIdx (oth j))]), .d (pr p), .d (.int ix)]) rfl rfl ((sSeq_nx e0).trans ((sSeq_nx ((sIf_f c1).trans rfl)).trans (sRet_ok ((eIf_f c2).trans e2))))⟩
theorem lbelow_ok {N i j ix : Nat} {l l2 : List (Nat × Nat)} {p : Nat × Nat} (hl : Dbl N l) (hix : ix < l2.length) (hlt : ∀ p ∈ l2, p.1 < N ∧ p.2 < N) :
    ∃ o, m_law_tr_below [.d (.tuple (l.map pr)), .d (.int i), .d (.int j), .d (.tuple (l2.mapIdx (oth j))), .d (pr p), .d (.int ix)] = .ok (pr (bel l l2 j p ix)) o := by
  have h2 := hlt _ (get_mem (l := l2) (d := (0, 0)) hix)
  have c1 := tTru_ok (eBin_ok (f := fEq) (a := eVar 5) (b := eVar 2) (sl := [.d (.tuple (l.map pr)), .d (.int i), .d (.int j), .d (.tuple (l2.mapIdx (oth j))), .d (pr p), .d (.int ix)]) rfl rfl eq_int) rfl
  have c2 := tTru_ok (eBin_ok (f := fLt) (a := eVar 5) (b := eVar 2) (sl := [.d (.tuple (l.map pr)), .d (.int i), .d (.int j), .d (.tuple (l2.mapIdx (oth j))), .d (pr p), .d (.int ix)]) rfl rfl lt_int) rfl
  have e1 := eBin_ok (f := fIx) (a := eVar 3) (b := eVar 5) (sl := [.d (.tuple (l.map pr)), .d (.int i), .d (.int j), .d (.tuple (l2.mapIdx (oth j))), .d (pr p), .d (.int ix)]) rfl rfl (ix_ok (oth_get (j := j) hix))
  unfold bel
  by_cases c : ix = j
  · rw [show ((ix : Int) == j) = true by rw [beq_iff_eq]; omega] at c1
    rw [if_pos c]
    exact ⟨_, mkFn_rt (np := 6) (n := 6) (as := [.d (.tuple (l.map pr)), .d (.int i), .d (.int j), .d (.tuple (l2.mapIdx (oth j))), .d (pr p), .d (.int ix)]) rfl rfl (sSeq_rt ((sIf_t c1).trans (sRet_ok rfl)))⟩
  · rw [show ((ix : Int) == j) = false from beq_eq_false_iff_ne.mpr (by omega)] at c1
    rw [if_neg c]
    by_cases c' : ix < j
    · rw [show (decide ((ix : Int) < j)) = true by simpa using c'] at c2
      rw [if_pos c']
      rw [show oth j ix (l2.getD ix (0, 0)) = pr (l2.getD ix (0, 0)) from if_pos c'] at e1
      exact ⟨_, mkFn_rt (np := 6) (n := 6) (as := [.d (.tuple (l.map pr)), .d (.int i), .d (.int j), .d (.tuple (l2.mapIdx (oth j))), .d (pr p), .d (.int ix)]) rfl rfl ((sSeq_nx ((sIf_f c1).trans rfl)).trans (sRet_ok ((eIf_t c2).trans e1)))⟩
    · rw [show (decide ((ix : Int) < j)) = false by simpa using c'] at c2
      rw [if_neg c']
      rw [show oth j ix (l2.getD ix (0, 0)) = .int ((l2.getD ix (0, 0)).1 : Nat) from (if_neg c').trans (if_neg c)] at e1
      have e2 := eBin_ok (f := fIx) (a := eVar 0) (sl := [.d (.tuple (l.map pr)), .d (.int i), .d (.int j), .d (.tuple (l2.mapIdx (oth j))), .d (pr p), .d (.int ix)]) rfl e1 (ix_ok (pr_get (l := l) (by rw [hl.1]; exact h2.1)))
      exact ⟨_, mkFn_rt (np := 6) (n := 6) (as := [.d (.tuple (l.map pr)), .d (.int i), .d (.int j), .d (.tuple (l2.mapIdx (oth j))), .d (pr p), .d (.int ix)]) rfl rfl ((sSeq_nx ((sIf_f c1).trans rfl)).trans (sRet_ok ((eIf_f c2).trans e2)))⟩
/-! ### leaves -/
def sel (p : Nat × Nat) (b : Nat) : Nat := if b = 0 then p.1 else p.2
theorem sel_ix {p : Nat × Nat} {b : Nat} (hb : b < 2) : fIx (pr p) (.int (b : Nat)) = some (.int (sel p b : Nat)) := by
  have : b = 0 ∨ b = 1 := by omega
  rcases this with rfl | rfl <;> rfl
theorem sel_lt {N b : Nat} {p : Nat × Nat} (hp : p.1 < N ∧ p.2 < N) : sel p b < N := by
  unfold sel; split
  · exact hp.1
  · exact hp.2
def lf (l : List (Nat × Nat)) : Nat → Nat → Nat → Nat
  | 0, w, _ => w
  | c + 1, w, x => lf l c (sel (l.getD w (0, 0)) (x % 2)) (x / 2)
theorem lf_snoc (l : List (Nat × Nat)) : ∀ (c w x : Nat), lf l (c + 1) w x = sel (l.getD (lf l c w x) (0, 0)) (x / 2 ^ c % 2)
  | 0, w, x => by simp [lf]
  | c + 1, w, x => by
    have := lf_snoc l c (sel (l.getD w (0, 0)) (x % 2)) (x / 2)
    show lf l (c + 1) (sel (l.getD w (0, 0)) (x % 2)) (x / 2) = _
    rw [this, Nat.div_div_eq_div_mul, show 2 * 2 ^ c = 2 ^ (c + 1) by rw [Nat.pow_succ]; omega]
    rfl
theorem lf_lt {N : Nat} {l : List (Nat × Nat)} (hl : Dbl N l) : ∀ (c : Nat) {w x : Nat}, w < N → lf l c w x < N
  | 0, _, _, h => h
  | c + 1, w, x, h => lf_lt hl c (sel_lt (hl.2 _ (get_mem (d := (0, 0)) (by rw [hl.1]; exact h))))
theorem led_ok {N b t w x : Nat} {l : List (Nat × Nat)} (hl : Dbl N l) (hw : w < N) (hb : b ≤ t) (ht : t ≤ 100) :
    ∃ o, m_led_down [.d (.tuple (l.map pr)), .d (.int w), .d (.int x), .d (.int b), .d (.int t)] = .ok (.int (lf l (t - b) w (x / 2 ^ b) : Nat)) o := by
  obtain ⟨s', e2, w5, e3, u5⟩ := sLoop_inv (g := gNm 5) (b := fb_led_down_1)
    (fun k sl => ∃ w5, sl = [.d (.tuple (l.map pr)), .d (.int (lf l k w (x / 2 ^ b) : Nat)), .d (.int x), .d (.int b), .d (.int t), w5] ∧ U w5) (rangeD b (t - b)) 0 [.d (.tuple (l.map pr)), .d (.int w), .d (.int x), .d (.int b), .d (.int t), .un] ⟨_, rfl, .un⟩ fun k y sl hi ⟨w5, e, u5⟩ => by
      subst e
      obtain ⟨hi1, rfl⟩ := rangeD_get hi
      rw [Nat.zero_add]
      have e0 : (b : Int) + (k : Nat) = ((b + k : Nat) : Int) := by omega
      have hlt : lf l k w (x / 2 ^ b) < l.length := by rw [hl.1]; exact lf_lt hl k hw
      have e1 := sSet_ok (i := 1) (eBin_ok (f := fIx) (a := eBin fIx (eVar 0) (eVar 1)) (b := eBin fBand (eBin fShr (eVar 2) (eVar 5)) (eC (.int 1))) (sl := [.d (.tuple (l.map pr)), .d (.int (lf l k w (x / 2 ^ b) : Nat)), .d (.int x), .d (.int b), .d (.int t), .d (.int (b + k : Nat))]) (eBin_ok rfl rfl (ix_ok (pr_get hlt))) (eBin_ok (eBin_ok rfl rfl (shr_nat x (b + k))) rfl (band_one _)) (sel_ix (Nat.mod_lt _ (by decide)))) rfl
      rw [show x / 2 ^ (b + k) = x / 2 ^ b / 2 ^ k by rw [Nat.div_div_eq_div_mul, Nat.pow_add], ← lf_snoc] at e1
      refine ⟨_, _, ?_, .inl e1, _, rfl, .d⟩
      rw [e0]
      rcases u5 with rfl | ⟨_, rfl⟩ <;> rfl
  subst e3
  rw [rangeD_length, Nat.zero_add] at e2
  have e4 := (for_ok (b := fb_led_down_1) (g := gNm 5) (range2_ok (a := eVar 3) (b := eVar 4) (sl := [.d (.tuple (l.map pr)), .d (.int w), .d (.int x), .d (.int b), .d (.int t), .un]) rfl rfl (by omega) (by omega))).trans e2
  exact ⟨_, mkFn_rt (np := 5) (n := 6) (as := [.d (.tuple (l.map pr)), .d (.int w), .d (.int x), .d (.int b), .d (.int t)]) rfl rfl ((sSeq_nx e4).trans (sRet_ok rfl))⟩
theorem leaf_ok {N t w x : Nat} {l : List (Nat × Nat)} (hl : Dbl N l) (hw : w < N) (ht : t ≤ 100) :
    ∃ o, m_law_tr_leaf [.d (.tuple (l.map pr)), .d (.int t), .d (.int w), .d (.int x)] = .ok (.int (lf l t w x : Nat)) o := by
  obtain ⟨s', e2, w5, e3, u5⟩ := sLoop_inv (g := gNm 4) (b := fb_law_tr_leaf_1)
    (fun k sl => ∃ w5, sl = [.d (.tuple (l.map pr)), .d (.int t), .d (.int (lf l k w x : Nat)), .d (.int (x / 2 ^ k : Nat)), w5] ∧ U w5) (rangeD 0 t) 0 [.d (.tuple (l.map pr)), .d (.int t), .d (.int w), .d (.int x), .un] ⟨_, by simp [lf], .un⟩ fun k y sl hi ⟨w5, e, u5⟩ => by
      subst e
      obtain ⟨hi1, rfl⟩ := rangeD_get hi
      rw [Nat.zero_add]
      have hlt : lf l k w x < l.length := by rw [hl.1]; exact lf_lt hl k hw
      have e1 := sSet_ok (i := 2) (eBin_ok (f := fIx) (a := eBin fIx (eVar 0) (eVar 2)) (b := eBin fMod (eVar 3) (eC (.int 2))) (sl := [.d (.tuple (l.map pr)), .d (.int t), .d (.int (lf l k w x : Nat)), .d (.int (x / 2 ^ k : Nat)), .d (.int (0 + (k : Nat)))]) (eBin_ok rfl rfl (ix_ok (pr_get hlt))) (eBin_ok rfl rfl (mod_ok (by decide))) (sel_ix (b := x / 2 ^ k % 2) (Nat.mod_lt _ (by decide)))) rfl
      rw [← lf_snoc] at e1
      have e2 := sSet_ok (i := 3) (eBin_ok (f := fDiv) (a := eVar 3) (b := eC (.int 2)) (sl := [.d (.tuple (l.map pr)), .d (.int t), .d (.int (lf l (k + 1) w x : Nat)), .d (.int (x / 2 ^ k : Nat)), .d (.int (0 + (k : Nat)))]) rfl rfl (div_ok (by decide) (by decide))) rfl
      rw [show ((x / 2 ^ k : Nat) : Int) / 2 = ((x / 2 ^ (k + 1) : Nat) : Int) by rw [Nat.pow_succ, ← Nat.div_div_eq_div_mul]; omega] at e2
      refine ⟨_, _, ?_, .inl ((sSeq_nx e1).trans e2), _, rfl, .d⟩
      rcases u5 with rfl | ⟨_, rfl⟩ <;> rfl
  subst e3
  rw [rangeD_length, Nat.zero_add] at e2
  have e4 := (for_ok (b := fb_law_tr_leaf_1) (g := gNm 4) (range1_ok (e := eVar 1) (sl := [.d (.tuple (l.map pr)), .d (.int t), .d (.int w), .d (.int x), .un]) rfl (by omega))).trans e2
  exact ⟨_, mkFn_rt (np := 4) (n := 5) (as := [.d (.tuple (l.map pr)), .d (.int t), .d (.int w), .d (.int x)]) rfl rfl ((sSeq_nx e4).trans (sRet_ok rfl))⟩
/-! ### the run, node by node -/
def rn (l l2 : List (Nat × Nat)) (j : Nat) (p : Nat × Nat) (i t : Nat) : Nat → List Nat → D → D
  | 0, _, a => a
  | f + 1, seen, .tuple [.int x, .tuple ks] => rn l l2 j p i t f (if x.toNat % 2 ^ i ∈ seen then seen else seen ++ [x.toNat % 2 ^ i])
      (ks.getD (lf l (t - (i + 1)) (sel (bel l l2 j p (seen.idxOf (x.toNat % 2 ^ i))) (x.toNat / 2 ^ i % 2)) (x.toNat / 2 ^ (i + 1))) (.int 0))
  | _ + 1, _, a => a
theorem rn_bit {l l2 : List (Nat × Nat)} {j : Nat} {p : Nat × Nat} {i t f : Nat} {seen : List Nat} {a : D} (h : bitD a) : rn l l2 j p i t f seen a = a := by
  cases f with
  | zero => rfl
  | succ f => rcases h with rfl | rfl <;> rfl
def encS : Nat → List Nat → List (D × D)
  | _, [] => []
  | off, k :: r => (.int (k : Nat), .int (off : Nat)) :: encS (off + 1) r
theorem encS_len : ∀ (r : List Nat) (off : Nat), (encS off r).length = r.length
  | [], _ => rfl
  | k :: r, off => by simp [encS, encS_len r]
theorem encS_snoc (k : Nat) : ∀ (r : List Nat) (off : Nat), encS off (r ++ [k]) = encS off r ++ [(.int (k : Nat), .int (off + r.length : Nat))]
  | [], off => by simp [encS]
  | x :: r, off => by
    simp only [List.cons_append, encS, encS_snoc k r, List.length_cons]
    rw [show off + 1 + r.length = off + (r.length + 1) by omega]
theorem encS_look (k : Nat) : ∀ (r : List Nat) (off : Nat), lookK (.inl (k : Int)) (encS off r) = if k ∈ r then some (.int (off + r.idxOf k : Nat)) else none
  | [], off => by simp [encS, lookK]
  | x :: r, off => by
    unfold encS lookK
    by_cases c : x = k
    · subst c
      simp [kEq]
    · have c1 : kEq (.int (x : Nat)) (.inl (k : Int)) = false := by
        show ((x : Int) == (k : Int)) = false
        exact beq_eq_false_iff_ne.mpr (by omega)
      rw [c1]
      simp only [Bool.false_eq_true, if_false]
      rw [encS_look k r (off + 1)]
      by_cases m : k ∈ r
      · rw [if_pos m, if_pos (List.mem_cons_of_mem _ m), List.idxOf_cons, show (x == k) = false from beq_eq_false_iff_ne.mpr c, show off + 1 + r.idxOf k = off + (r.idxOf k + 1) by omega]
        rfl
      · rw [if_neg m, if_neg (fun z => (List.mem_cons.mp z).elim (fun z => c z.symm) m)]
theorem seen_q {l : Nat} {x : D} {ks : List D} {c : D} {seen : List Nat} {key q : Nat} (hc : c ∈ ks) (h : seen.length + qn (l + 1) (.tuple [x, .tuple ks]) ≤ q) : (if key ∈ seen then seen else seen ++ [key]).length + qn l c ≤ q ∧ seen.idxOf key < q := by
  have := qn_kid (x := x) hc (l := l)
  have h2 : seen.idxOf key ≤ seen.length := List.idxOf_le_length
  constructor
  · split
    · omega
    · rw [List.length_append, List.length_singleton]; omega
  · omega
section
variable {n N t i j : Nat} {l l2 : List (Nat × Nat)} {p : Nat × Nat}
theorem endwhile (h : W3 n N) (hl : Dbl N l) (hit : i < t) (ht : t ≤ 4) (h10 : l2.length ≤ 10) (hlt : ∀ p ∈ l2, p.1 < N ∧ p.2 < N) (hp : p.1 < N ∧ p.2 < N) : ∀ (left fuel : Nat) (a : D) (seen : List Nat) (w7 w8 w9 : W), left < fuel → AOk n t left a → seen.length + qn left a ≤ l2.length → U w7 → U w8 → U w9 →
    ∃ s', sWhile fuel wt_end_below_1 wb_end_below_1 [.d (.tuple (l.map pr)), .d (.int t), .d a, .d (.tuple [.int (i : Nat), .int (j : Nat), .tuple (l2.mapIdx (oth j))]), .d (pr p), .own false (.dict (encS 0 seen)), .d (.int i), w7, w8, w9] = .nx s' ∧ nth s' 2 = .d (rn l l2 j p i t left seen a) ∧ bitD (rn l l2 j p i t left seen a) := by
  have bitc : ∀ (left f : Nat) (a : D) (seen : List Nat) (w7 w8 w9 : W), bitD a → ∃ s', sWhile (f + 1) wt_end_below_1 wb_end_below_1 [.d (.tuple (l.map pr)), .d (.int t), .d a, .d (.tuple [.int (i : Nat), .int (j : Nat), .tuple (l2.mapIdx (oth j))]), .d (pr p), .own false (.dict (encS 0 seen)), .d (.int i), w7, w8, w9] = .nx s' ∧ nth s' 2 = .d (rn l l2 j p i t left seen a) ∧ bitD (rn l l2 j p i t left seen a) := fun left f a seen w7 w8 w9 ha => by
    rw [rn_bit ha]
    have e1 := tNot_ok (tTru_ok (eCall_ok (args := eCons (eVar 2) (eNil)) (sl := [.d (.tuple (l.map pr)), .d (.int t), .d a, .d (.tuple [.int (i : Nat), .int (j : Nat), .tuple (l2.mapIdx (oth j))]), .d (pr p), .own false (.dict (encS 0 seen)), .d (.int i), w7, w8, w9]) (xs := [a]) rfl (isbit_bit ha)) rfl)
    exact ⟨_, sWhile_f (t := wt_end_below_1) e1, rfl, ha⟩
  intro left
  induction left with
  | zero =>
    intro fuel a seen w7 w8 w9 hf ha hs u7 u8 u9
    obtain ⟨f, rfl⟩ : ∃ f, fuel = f + 1 := ⟨fuel - 1, by omega⟩
    exact bitc 0 f a seen w7 w8 w9 ha
  | succ left ih =>
    intro fuel a seen w7 w8 w9 hf ha hs u7 u8 u9
    obtain ⟨f, rfl⟩ : ∃ f, fuel = f + 1 := ⟨fuel - 1, by omega⟩
    rcases ha with ha | ⟨x, ks, rfl, hx, hlk, hk⟩
    · exact bitc (left + 1) f a seen w7 w8 w9 ha
    obtain ⟨key, hkey⟩ : ∃ key, key = x % 2 ^ i := ⟨_, rfl⟩
    have hbit : x / 2 ^ i % 2 < 2 := Nat.mod_lt _ (by decide)
    obtain ⟨w, hw⟩ : ∃ w, w = lf l (t - (i + 1)) (sel (bel l l2 j p (seen.idxOf key)) (x / 2 ^ i % 2)) (x / 2 ^ (i + 1)) := ⟨_, rfl⟩
    have h0 : seen.idxOf key < l2.length := by
      have h2 : seen.idxOf key ≤ seen.length := List.idxOf_le_length
      have : 1 ≤ qn (left + 1) (.tuple [.int (x : Nat), .tuple ks]) := Nat.le_add_right 1 _
      omega
    have hwN : w < N := by rw [hw]; exact lf_lt hl _ (sel_lt (bel_lt hl h0 hlt hp))
    have hwk : w < ks.length := by rw [hlk, ← h.2]; exact hwN
    obtain ⟨hs2, _⟩ := seen_q (key := key) (get_mem (l := ks) (m := w) (d := .int 0) hwk) hs
    have e1 := tNot_ok (tTru_ok (eCall_ok (args := eCons (eVar 2) (eNil)) (sl := [.d (.tuple (l.map pr)), .d (.int t), .d (.tuple [.int (x : Nat), .tuple ks]), .d (.tuple [.int (i : Nat), .int (j : Nat), .tuple (l2.mapIdx (oth j))]), .d (pr p), .own false (.dict (encS 0 seen)), .d (.int i), w7, w8, w9]) (xs := [.tuple [.int (x : Nat), .tuple ks]]) rfl (isbit_tup _)) rfl)
    have e2 : sSet 7 (eBin fIx (eVar 2) (eC (.int 0))) [.d (.tuple (l.map pr)), .d (.int t), .d (.tuple [.int (x : Nat), .tuple ks]), .d (.tuple [.int (i : Nat), .int (j : Nat), .tuple (l2.mapIdx (oth j))]), .d (pr p), .own false (.dict (encS 0 seen)), .d (.int i), w7, w8, w9] =
        .nx [.d (.tuple (l.map pr)), .d (.int t), .d (.tuple [.int (x : Nat), .tuple ks]), .d (.tuple [.int (i : Nat), .int (j : Nat), .tuple (l2.mapIdx (oth j))]), .d (pr p), .own false (.dict (encS 0 seen)), .d (.int i), .d (.int (x : Nat)), w8, w9] :=
      sSet_ok rfl (by rcases u7 with rfl | ⟨_, rfl⟩ <;> rfl)
    have hsh : fShl (.int 1) (.int i) = some (.int (2 ^ i : Nat)) := shl_t (by omega)
    have e3 : eSetd 5 (eBin fBand (eVar 7) (eBin fSub (eBin fShl (eC (.int 1)) (eVar 6)) (eC (.int 1)))) (eLenOD 5) [.d (.tuple (l.map pr)), .d (.int t), .d (.tuple [.int (x : Nat), .tuple ks]), .d (.tuple [.int (i : Nat), .int (j : Nat), .tuple (l2.mapIdx (oth j))]), .d (pr p), .own false (.dict (encS 0 seen)), .d (.int i), .d (.int (x : Nat)), w8, w9] =
        .ok (.int (seen.idxOf key : Nat)) [.d (.tuple (l.map pr)), .d (.int t), .d (.tuple [.int (x : Nat), .tuple ks]), .d (.tuple [.int (i : Nat), .int (j : Nat), .tuple (l2.mapIdx (oth j))]), .d (pr p), .own false (.dict (encS 0 (if key ∈ seen then seen else seen ++ [key]))), .d (.int i), .d (.int (x : Nat)), w8, w9] := by
      have k1 := eBin_ok (f := fBand) (a := eVar 7) (b := eBin fSub (eBin fShl (eC (.int 1)) (eVar 6)) (eC (.int 1))) (sl := [.d (.tuple (l.map pr)), .d (.int t), .d (.tuple [.int (x : Nat), .tuple ks]), .d (.tuple [.int (i : Nat), .int (j : Nat), .tuple (l2.mapIdx (oth j))]), .d (pr p), .own false (.dict (encS 0 seen)), .d (.int i), .d (.int (x : Nat)), w8, w9]) rfl (eBin_ok (eBin_ok rfl rfl hsh) rfl rfl) (band_mask x i)
      rw [← hkey] at k1
      have k2 := encS_look key seen 0
      rw [Nat.zero_add] at k2
      have k3 := eSetd_ok (i := 5) (v := eLenOD 5) (n := .inl (key : Int)) (m := encS 0 seen) (b := false) rfl k1 rfl rfl rfl (by rw [encS_len]; omega)
      rw [k2] at k3
      refine k3.trans ?_
      by_cases c : key ∈ seen
      · rw [if_pos c, if_pos c]
      · rw [if_neg c, if_neg c, encS_snoc, Nat.zero_add, List.idxOf_eq_length c]
        show R.ok (PyData.int ((encS 0 seen).length : Nat)) [.d (.tuple (l.map pr)), .d (.int t), .d (.tuple [.int (x : Nat), .tuple ks]), .d (.tuple [.int (i : Nat), .int (j : Nat), .tuple (l2.mapIdx (oth j))]), .d (pr p), .own false (.dict (encS 0 seen ++ [(.int (key : Nat), .int ((encS 0 seen).length : Nat))])), .d (.int i), .d (.int (x : Nat)), w8, w9] = _
        rw [encS_len]
    have e4 := sSet_ok (i := 8) e3 (by rcases u8 with rfl | ⟨_, rfl⟩ <;> rfl)
    obtain ⟨ob, eb⟩ := below_ok (i := i) (j := j) (p := p) hl h0 hlt
    have e5 := sSet_ok (i := 9) (eCall_ok (args := eCons (eVar 0) (eCons (eVar 3) (eCons (eVar 4) (eCons (eVar 8) (eNil))))) (sl := [.d (.tuple (l.map pr)), .d (.int t), .d (.tuple [.int (x : Nat), .tuple ks]), .d (.tuple [.int (i : Nat), .int (j : Nat), .tuple (l2.mapIdx (oth j))]), .d (pr p), .own false (.dict (encS 0 (if key ∈ seen then seen else seen ++ [key]))), .d (.int i), .d (.int (x : Nat)), .d (.int (seen.idxOf key : Nat)), w9]) (xs := [.tuple (l.map pr), .tuple [.int (i : Nat), .int (j : Nat), .tuple (l2.mapIdx (oth j))], pr p, .int (seen.idxOf key : Nat)]) rfl eb) (by rcases u9 with rfl | ⟨_, rfl⟩ <;> rfl)
    obtain ⟨od, ed⟩ := led_ok (b := i + 1) (t := t) (x := x) hl (sel_lt (b := x / 2 ^ i % 2) (bel_lt (ix := seen.idxOf key) (j := j) hl h0 hlt hp)) (by omega) (by omega)
    rw [← hw] at ed
    have e6 := sSet_ok (i := 2) (eBin_ok (f := fIx) (a := eBin fIx (eVar 2) (eC (.int 1))) (b := eCall m_led_down (eCons (eVar 0) (eCons (eBin fIx (eVar 9) (eBin fBand (eBin fShr (eVar 7) (eVar 6)) (eC (.int 1)))) (eCons (eVar 7) (eCons (eBin fAdd (eVar 6) (eC (.int 1))) (eCons (eVar 1) (eNil)))))))
      (sl := [.d (.tuple (l.map pr)), .d (.int t), .d (.tuple [.int (x : Nat), .tuple ks]), .d (.tuple [.int (i : Nat), .int (j : Nat), .tuple (l2.mapIdx (oth j))]), .d (pr p), .own false (.dict (encS 0 (if key ∈ seen then seen else seen ++ [key]))), .d (.int i), .d (.int (x : Nat)), .d (.int (seen.idxOf key : Nat)), .d (pr (bel l l2 j p (seen.idxOf key)))]) (x := .tuple ks) rfl
      (eCall_ok (xs := [.tuple (l.map pr), .int (sel (bel l l2 j p (seen.idxOf key)) (x / 2 ^ i % 2) : Nat), .int (x : Nat), .int ((i + 1 : Nat) : Int), .int (t : Nat)]) (eCons_ok rfl (eCons_ok (eBin_ok rfl (eBin_ok (eBin_ok rfl rfl (shr_nat x i)) rfl (band_one _)) (sel_ix hbit)) (eCons_ok rfl (eCons_ok rfl (eCons_ok rfl rfl))))) ed)
      (ix_ok (x := ks.getD w (.int 0)) (by rw [List.getD_eq_getElem?_getD, List.getElem?_eq_getElem hwk]; rfl))) rfl
    obtain ⟨s', e7, e8, e9⟩ := ih f (ks.getD w (.int 0)) (if key ∈ seen then seen else seen ++ [key]) (.d (.int (x : Nat))) (.d (.int (seen.idxOf key : Nat))) (.d (pr (bel l l2 j p (seen.idxOf key)))) (by omega) (hk _ (get_mem hwk)) hs2 .d .d .d
    have er : rn l l2 j p i t (left + 1) seen (.tuple [.int (x : Nat), .tuple ks]) = rn l l2 j p i t left (if key ∈ seen then seen else seen ++ [key]) (ks.getD w (.int 0)) := by
      rw [hw, hkey]
      rfl
    rw [er]
    exact ⟨s', (sWhile_t (t := wt_end_below_1) (b := wb_end_below_1) e1 ((sSeq_nx e2).trans ((sSeq_nx e4).trans ((sSeq_nx e5).trans e6)))).trans e7, e8, e9⟩
theorem end_ok (h : W3 n N) (hl : Dbl N l) (hit : i < t) (ht : t ≤ 4) (h10 : l2.length ≤ 10) (hlt : ∀ p ∈ l2, p.1 < N ∧ p.2 < N) (hp : p.1 < N ∧ p.2 < N) {a : D} (ha : AOk n t 3 a) (hq : qn 3 a ≤ l2.length) :
    ∃ o, m_end_below [.d (.tuple (l.map pr)), .d (.int t), .d a, .d (.tuple [.int (i : Nat), .int (j : Nat), .tuple (l2.mapIdx (oth j))]), .d (pr p)] = .ok (rn l l2 j p i t 3 [] a) o := by
  obtain ⟨s', e1, e2, _⟩ := endwhile (j := j) h hl hit ht h10 hlt hp 3 5 a [] .un .un .un (by decide) ha (by simpa using hq) .un .un .un
  have e3 : sRet (eVar 2) s' = .rt (rn l l2 j p i t 3 [] a) s' := by
    unfold sRet eVar
    rw [e2]
  exact ⟨_, mkFn_rt (np := 5) (n := 10) (as := [.d (.tuple (l.map pr)), .d (.int t), .d a, .d (.tuple [.int (i : Nat), .int (j : Nat), .tuple (l2.mapIdx (oth j))]), .d (pr p)]) rfl rfl ((sSeq_nx (show sParD' 5 6 _ _ = .nx _ from rfl)).trans ((sSeq_nx e1).trans e3))⟩
end
/-! ### the law's own run -/
def bts (i X : Nat) : List D := (List.range i).map fun k => .int (X / 2 ^ k % 2 : Nat)
def nd (i X : Nat) : D := .list (bts i X)
theorem bts_len (i X : Nat) : (bts i X).length = i := by unfold bts; rw [List.length_map, List.length_range]
theorem bts_succ (i X : Nat) : bts (i + 1) X = bts i X ++ [.int (X / 2 ^ i % 2 : Nat)] := by
  unfold bts; rw [List.range_succ, List.map_append]; rfl
theorem nd_mod {i : Nat} (hi : i ≤ 3) (X : Nat) : nd i X = nd i (X % 2 ^ i) := by
  have : i = 0 ∨ i = 1 ∨ i = 2 ∨ i = 3 := by omega
  unfold nd bts
  rcases this with rfl | rfl | rfl | rfl
  · rfl
  · have e0 : X / 2 ^ 0 % 2 = X % 2 ^ 1 / 2 ^ 0 % 2 := by omega
    simp only [List.range, List.range.loop, List.map_cons, List.map_nil, ← e0]
  · have e0 : X / 2 ^ 0 % 2 = X % 2 ^ 2 / 2 ^ 0 % 2 := by omega
    have e1 : X / 2 ^ 1 % 2 = X % 2 ^ 2 / 2 ^ 1 % 2 := by omega
    simp only [List.range, List.range.loop, List.map_cons, List.map_nil, ← e0, ← e1]
  · have e0 : X / 2 ^ 0 % 2 = X % 2 ^ 3 / 2 ^ 0 % 2 := by omega
    have e1 : X / 2 ^ 1 % 2 = X % 2 ^ 3 / 2 ^ 1 % 2 := by omega
    have e2 : X / 2 ^ 2 % 2 = X % 2 ^ 3 / 2 ^ 2 % 2 := by omega
    simp only [List.range, List.range.loop, List.map_cons, List.map_nil, ← e0, ← e1, ← e2]
theorem nd_eqv {i : Nat} (hi : i ≤ 3) : ∀ a < 2 ^ i, ∀ b < 2 ^ i, PyData.eqv (nd i a) (nd i b) = (a == b) := by
  have : i = 0 ∨ i = 1 ∨ i = 2 ∨ i = 3 := by omega
  rcases this with rfl | rfl | rfl | rfl <;> decide +kernel
theorem nd_sh (i X : Nat) : Sh 1 (nd i X) := Sh.lst fun x hx => by
  obtain ⟨k, _, rfl⟩ := List.mem_map.mp hx
  exact Sh.int
theorem nds_sh (i : Nat) (seen : List Nat) : Sh 2 (.list (seen.map (nd i))) := Sh.lst fun x hx => by
  obtain ⟨k, _, rfl⟩ := List.mem_map.mp hx
  exact nd_sh i k
theorem nds_any {i : Nat} (hi : i ≤ 3) {key : Nat} (hk : key < 2 ^ i) : ∀ (seen : List Nat), (∀ s ∈ seen, s < 2 ^ i) → ((seen.map (nd i)).any fun z => PyData.eqv z (nd i key)) = decide (key ∈ seen)
  | [], _ => by simp
  | s :: r, h => by
    rw [List.map_cons, List.any_cons, nds_any hi hk r (fun z hz => h z (List.mem_cons_of_mem _ hz)), nd_eqv hi _ (h s List.mem_cons_self) _ hk]
    by_cases c : s = key
    · subst c; simp
    · have c' : ¬ key = s := fun z => c z.symm
      simp [c, c']
theorem nds_index {i : Nat} (hi : i ≤ 3) {key : Nat} (hk : key < 2 ^ i) : ∀ (seen : List Nat), (∀ s ∈ seen, s < 2 ^ i) → key ∈ seen → indexD (seen.map (nd i)) (nd i key) = some (seen.idxOf key)
  | [], _, m => nomatch m
  | s :: r, h, m => by
    rw [List.map_cons]
    unfold indexD
    rw [nd_eqv hi _ (h s List.mem_cons_self) _ hk]
    by_cases c : s = key
    · subst c; simp
    · have m' : key ∈ r := (List.mem_cons.mp m).elim (fun z => absurd z.symm c) id
      rw [nds_index hi hk r (fun z hz => h z (List.mem_cons_of_mem _ hz)) m', List.idxOf_cons, show (s == key) = false from beq_eq_false_iff_ne.mpr c]
      rfl
theorem idx_snoc {key : Nat} {seen : List Nat} : (if key ∈ seen then seen else seen ++ [key]).idxOf key = seen.idxOf key := by
  split
  · rfl
  · rename_i c
    rw [List.idxOf_append, if_neg c, List.idxOf_eq_length c]
    simp
section
variable {n N t i j : Nat} {l l2 : List (Nat × Nat)} {p : Nat × Nat}
theorem metwhile (h : W3 n N) (hl : Dbl N l) (hit : i < t) (ht : t ≤ 4) (h10 : l2.length ≤ 10) (hlt : ∀ p ∈ l2, p.1 < N ∧ p.2 < N) (hp : p.1 < N ∧ p.2 < N) : ∀ (left fuel : Nat) (a : D) (seen : List Nat) (w8 w9 w10 w11 : W), left < fuel → AOk n t left a → seen.length + qn left a ≤ l2.length → (∀ s ∈ seen, s < 2 ^ i) → U w8 → U w9 → U w10 → U w11 →
    ∃ s', sWhile fuel wt_law_tr_met_1 wb_law_tr_met_1 [.d (.tuple (l.map pr)), .d (.int t), .d a, .d (.int i), .d (.int j), .d (.tuple (l2.mapIdx (oth j))), .d (pr p), .own false (.list (seen.map (nd i))), w8, w9, w10, w11] = .nx s' ∧ nth s' 2 = .d (rn l l2 j p i t left seen a) := by
  have bitc : ∀ (left f : Nat) (a : D) (seen : List Nat) (w8 w9 w10 w11 : W), bitD a → ∃ s', sWhile (f + 1) wt_law_tr_met_1 wb_law_tr_met_1 [.d (.tuple (l.map pr)), .d (.int t), .d a, .d (.int i), .d (.int j), .d (.tuple (l2.mapIdx (oth j))), .d (pr p), .own false (.list (seen.map (nd i))), w8, w9, w10, w11] = .nx s' ∧ nth s' 2 = .d (rn l l2 j p i t left seen a) := fun left f a seen w8 w9 w10 w11 ha => by
    rw [rn_bit ha]
    have e1 : wt_law_tr_met_1 [.d (.tuple (l.map pr)), .d (.int t), .d a, .d (.int i), .d (.int j), .d (.tuple (l2.mapIdx (oth j))), .d (pr p), .own false (.list (seen.map (nd i))), w8, w9, w10, w11] = .ok false [.d (.tuple (l.map pr)), .d (.int t), .d a, .d (.int i), .d (.int j), .d (.tuple (l2.mapIdx (oth j))), .d (pr p), .own false (.list (seen.map (nd i))), w8, w9, w10, w11] := by
      rcases ha with rfl | rfl <;> rfl
    exact ⟨_, sWhile_f (t := wt_law_tr_met_1) e1, rfl⟩
  intro left
  induction left with
  | zero =>
    intro fuel a seen w8 w9 w10 w11 hf ha hs hm u8 u9 u10 u11
    obtain ⟨f, rfl⟩ : ∃ f, fuel = f + 1 := ⟨fuel - 1, by omega⟩
    exact bitc 0 f a seen w8 w9 w10 w11 ha
  | succ left ih =>
    intro fuel a seen w8 w9 w10 w11 hf ha hs hm u8 u9 u10 u11
    obtain ⟨f, rfl⟩ : ∃ f, fuel = f + 1 := ⟨fuel - 1, by omega⟩
    rcases ha with ha | ⟨x, ks, rfl, hx, hlk, hk⟩
    · exact bitc (left + 1) f a seen w8 w9 w10 w11 ha
    obtain ⟨key, hkey⟩ : ∃ key, key = x % 2 ^ i := ⟨_, rfl⟩
    have hkl : key < 2 ^ i := by rw [hkey]; exact Nat.mod_lt _ (Nat.two_pow_pos i)
    have hbit : x / 2 ^ i % 2 < 2 := Nat.mod_lt _ (by decide)
    obtain ⟨w, hw⟩ : ∃ w, w = lf l (t - (i + 1)) (sel (bel l l2 j p (seen.idxOf key)) (x / 2 ^ i % 2)) (x / 2 ^ (i + 1)) := ⟨_, rfl⟩
    have h0 : seen.idxOf key < l2.length := by
      have h2 : seen.idxOf key ≤ seen.length := List.idxOf_le_length
      have : 1 ≤ qn (left + 1) (.tuple [.int (x : Nat), .tuple ks]) := Nat.le_add_right 1 _
      omega
    have hwN : w < N := by rw [hw]; exact lf_lt hl _ (sel_lt (bel_lt hl h0 hlt hp))
    have hwk : w < ks.length := by rw [hlk, ← h.2]; exact hwN
    obtain ⟨hs2, _⟩ := seen_q (key := key) (get_mem (l := ks) (m := w) (d := .int 0) hwk) hs
    have hm2 : ∀ s ∈ (if key ∈ seen then seen else seen ++ [key]), s < 2 ^ i := fun s hs => by
      split at hs
      · exact hm s hs
      · rcases List.mem_append.mp hs with z | z
        · exact hm s z
        · rw [List.mem_singleton.mp z]; exact hkl
    have e2 : sParN 8 9 (eBin fIx (eVar 2) (eC (.int 0))) [.d (.tuple (l.map pr)), .d (.int t), .d (.tuple [.int (x : Nat), .tuple ks]), .d (.int i), .d (.int j), .d (.tuple (l2.mapIdx (oth j))), .d (pr p), .own false (.list (seen.map (nd i))), w8, w9, w10, w11] =
        .nx [.d (.tuple (l.map pr)), .d (.int t), .d (.tuple [.int (x : Nat), .tuple ks]), .d (.int i), .d (.int j), .d (.tuple (l2.mapIdx (oth j))), .d (pr p), .own false (.list (seen.map (nd i))), .d (.int (x : Nat)), .own false (.list []), w10, w11] :=
      sParN_ok rfl ⟨by rcases u8 with rfl | ⟨_, rfl⟩ <;> rfl, by rcases u9 with rfl | ⟨_, rfl⟩ <;> rfl⟩
    obtain ⟨s1, e3, v10, q1, uv⟩ := sLoop_inv (g := gNm 10) (b := fb_law_tr_met_1) (fun k sl => ∃ v10, sl = [.d (.tuple (l.map pr)), .d (.int t), .d (.tuple [.int (x : Nat), .tuple ks]), .d (.int i), .d (.int j), .d (.tuple (l2.mapIdx (oth j))), .d (pr p), .own false (.list (seen.map (nd i))), .d (.int (x / 2 ^ k : Nat)), .own false (.list (bts k x)), v10, w11] ∧ U v10) (rangeD 0 i) 0
      [.d (.tuple (l.map pr)), .d (.int t), .d (.tuple [.int (x : Nat), .tuple ks]), .d (.int i), .d (.int j), .d (.tuple (l2.mapIdx (oth j))), .d (pr p), .own false (.list (seen.map (nd i))), .d (.int (x : Nat)), .own false (.list []), w10, w11] ⟨w10, by simp [bts], u10⟩ fun k y sl hi ⟨v10, e, uv⟩ => by
        subst e
        obtain ⟨hi1, rfl⟩ := rangeD_get hi
        rw [Nat.zero_add]
        have k1 := sExpr_ok (eApp_ok (i := 9) (b := false) (xs := bts k x) (e := eBin fMod (eVar 8) (eC (.int 2))) (sl := [.d (.tuple (l.map pr)), .d (.int t), .d (.tuple [.int (x : Nat), .tuple ks]), .d (.int i), .d (.int j), .d (.tuple (l2.mapIdx (oth j))), .d (pr p), .own false (.list (seen.map (nd i))), .d (.int (x / 2 ^ k : Nat)), .own false (.list (bts k x)), .d (.int (0 + (k : Nat))), w11]) rfl (eBin_ok rfl rfl (mod_ok (by decide))) rfl (by rw [bts_len]; omega))
        rw [show ((x / 2 ^ k : Nat) : Int) % 2 = ((x / 2 ^ k % 2 : Nat) : Int) by omega, ← bts_succ] at k1
        have k2 := sSet_ok (i := 8) (eBin_ok (f := fDiv) (a := eVar 8) (b := eC (.int 2)) (sl := [.d (.tuple (l.map pr)), .d (.int t), .d (.tuple [.int (x : Nat), .tuple ks]), .d (.int i), .d (.int j), .d (.tuple (l2.mapIdx (oth j))), .d (pr p), .own false (.list (seen.map (nd i))), .d (.int (x / 2 ^ k : Nat)), .own false (.list (bts (k + 1) x)), .d (.int (0 + (k : Nat))), w11]) rfl rfl (div_ok (by decide) (by decide))) rfl
        rw [show ((x / 2 ^ k : Nat) : Int) / 2 = ((x / 2 ^ (k + 1) : Nat) : Int) by rw [Nat.pow_succ, ← Nat.div_div_eq_div_mul]; omega] at k2
        exact ⟨_, _, by rcases uv with rfl | ⟨_, rfl⟩ <;> rfl, .inl ((sSeq_nx k1).trans k2), _, rfl, .d⟩
    subst q1
    rw [rangeD_length, Nat.zero_add] at e3
    have e4 := (for_ok (b := fb_law_tr_met_1) (g := gNm 10) (range1_ok (e := eVar 3) (sl := [.d (.tuple (l.map pr)), .d (.int t), .d (.tuple [.int (x : Nat), .tuple ks]), .d (.int i), .d (.int j), .d (.tuple (l2.mapIdx (oth j))), .d (pr p), .own false (.list (seen.map (nd i))), .d (.int (x : Nat)), .own false (.list []), w10, w11]) (n := i) rfl (by omega))).trans e3
    have hnd : PyData.list (bts i x) = nd i key := by rw [hkey]; exact nd_mod (by omega) x
    rw [hnd] at e4
    have e5 : sIf (tTru (eInO true 7 (eVar 9))) (sExpr (eApp 7 (eVar 9))) (sSkip) [.d (.tuple (l.map pr)), .d (.int t), .d (.tuple [.int (x : Nat), .tuple ks]), .d (.int i), .d (.int j), .d (.tuple (l2.mapIdx (oth j))), .d (pr p), .own false (.list (seen.map (nd i))), .d (.int (x / 2 ^ i : Nat)), .own false (nd i key), v10, w11] =
        .nx [.d (.tuple (l.map pr)), .d (.int t), .d (.tuple [.int (x : Nat), .tuple ks]), .d (.int i), .d (.int j), .d (.tuple (l2.mapIdx (oth j))), .d (pr p), .own false (.list ((if key ∈ seen then seen else seen ++ [key]).map (nd i))), .d (.int (x / 2 ^ i : Nat)), .d (nd i key), v10, w11] := by
      have k0 : fInL (seen.map (nd i)) (nd i key) = some (decide (key ∈ seen)) := by
        unfold fInL
        rw [if_pos ⟨(nd_sh i key).shaped (by decide), (nds_sh i seen).shaped (by decide)⟩, nds_any (by omega) hkl seen hm]
      have k1 : eInO true 7 (eVar 9) [.d (.tuple (l.map pr)), .d (.int t), .d (.tuple [.int (x : Nat), .tuple ks]), .d (.int i), .d (.int j), .d (.tuple (l2.mapIdx (oth j))), .d (pr p), .own false (.list (seen.map (nd i))), .d (.int (x / 2 ^ i : Nat)), .own false (nd i key), v10, w11] = .ok (.bool (!decide (key ∈ seen))) [.d (.tuple (l.map pr)), .d (.int t), .d (.tuple [.int (x : Nat), .tuple ks]), .d (.int i), .d (.int j), .d (.tuple (l2.mapIdx (oth j))), .d (pr p), .own false (.list (seen.map (nd i))), .d (.int (x / 2 ^ i : Nat)), .d (nd i key), v10, w11] := by
        show optR ((fInL (seen.map (nd i)) (nd i key)).map fun k => PyData.bool (if true = true then !k else k)) _ = _
        rw [k0]
        rfl
      have k2 := tTru_ok k1 rfl
      by_cases c : key ∈ seen
      · rw [decide_eq_true c] at k2
        rw [if_pos c]
        exact (sIf_f k2).trans rfl
      · rw [decide_eq_false c] at k2
        rw [if_neg c, List.map_append]
        exact (sIf_t k2).trans (sExpr_ok (eApp_ok (i := 7) (b := false) (xs := seen.map (nd i)) rfl rfl rfl (by rw [List.length_map]; omega)))
    have e6 : eIdxO 7 (eVar 9) [.d (.tuple (l.map pr)), .d (.int t), .d (.tuple [.int (x : Nat), .tuple ks]), .d (.int i), .d (.int j), .d (.tuple (l2.mapIdx (oth j))), .d (pr p), .own false (.list ((if key ∈ seen then seen else seen ++ [key]).map (nd i))), .d (.int (x / 2 ^ i : Nat)), .d (nd i key), v10, w11] =
        .ok (.int (seen.idxOf key : Nat)) [.d (.tuple (l.map pr)), .d (.int t), .d (.tuple [.int (x : Nat), .tuple ks]), .d (.int i), .d (.int j), .d (.tuple (l2.mapIdx (oth j))), .d (pr p), .own false (.list ((if key ∈ seen then seen else seen ++ [key]).map (nd i))), .d (.int (x / 2 ^ i : Nat)), .d (nd i key), v10, w11] := by
      show (if SeqAt.shaped (nd i key) = true ∧ SeqAt.shaped (.list ((if key ∈ seen then seen else seen ++ [key]).map (nd i))) = true then optR ((indexD ((if key ∈ seen then seen else seen ++ [key]).map (nd i)) (nd i key)).map fun j => PyData.int (j : Nat)) _ else R.stuck) = _
      rw [if_pos ⟨(nd_sh i key).shaped (by decide), (nds_sh i _).shaped (by decide)⟩, nds_index (by omega) hkl _ hm2 (by split <;> simp_all), idx_snoc]
      rfl
    obtain ⟨ob, eb⟩ := lbelow_ok (i := i) (j := j) (p := p) hl h0 hlt
    have e7 := sSet_ok (i := 11) (eCall_ok (args := eCons (eVar 0) (eCons (eVar 3) (eCons (eVar 4) (eCons (eVar 5) (eCons (eVar 6) (eCons (eIdxO 7 (eVar 9)) (eNil))))))) (sl := [.d (.tuple (l.map pr)), .d (.int t), .d (.tuple [.int (x : Nat), .tuple ks]), .d (.int i), .d (.int j), .d (.tuple (l2.mapIdx (oth j))), .d (pr p), .own false (.list ((if key ∈ seen then seen else seen ++ [key]).map (nd i))), .d (.int (x / 2 ^ i : Nat)), .d (nd i key), v10, w11])
      (xs := [.tuple (l.map pr), .int (i : Nat), .int (j : Nat), .tuple (l2.mapIdx (oth j)), pr p, .int (seen.idxOf key : Nat)]) (eCons_ok rfl (eCons_ok rfl (eCons_ok rfl (eCons_ok rfl (eCons_ok rfl (eCons_ok e6 rfl)))))) eb) (by rcases u11 with rfl | ⟨_, rfl⟩ <;> rfl)
    obtain ⟨od, ed⟩ := leaf_ok (t := t - (i + 1)) (x := x / 2 ^ (i + 1)) hl (sel_lt (b := x / 2 ^ i % 2) (bel_lt (ix := seen.idxOf key) (j := j) hl h0 hlt hp)) (by omega)
    rw [← hw] at ed
    have hx2 : ((x / 2 ^ i : Nat) : Int) / 2 = ((x / 2 ^ (i + 1) : Nat) : Int) := by rw [Nat.pow_succ, ← Nat.div_div_eq_div_mul]; omega
    have hx3 : fDiv (.int (x / 2 ^ i : Nat)) (.int 2) = some (.int (x / 2 ^ (i + 1) : Nat)) := by rw [← hx2]; exact div_ok (by decide) (by decide)
    have hx4 : fMod (.int (x / 2 ^ i : Nat)) (.int 2) = some (.int (x / 2 ^ i % 2 : Nat)) := mod_ok (by decide)
    have hx5 : fSub (.int ((t : Int) - (i : Int))) (.int 1) = some (.int (t - (i + 1) : Nat)) := by
      have z : (t : Int) - (i : Int) - 1 = ((t - (i + 1) : Nat) : Int) := by omega
      show some (PyData.int ((t : Int) - (i : Int) - 1)) = _
      rw [z]
    have e8 := sSet_ok (i := 2) (eBin_ok (f := fIx) (a := eBin fIx (eVar 2) (eC (.int 1))) (b := eCall m_law_tr_leaf (eCons (eVar 0) (eCons (eBin fSub (eBin fSub (eVar 1) (eVar 3)) (eC (.int 1))) (eCons (eBin fIx (eVar 11) (eBin fMod (eVar 8) (eC (.int 2)))) (eCons (eBin fDiv (eVar 8) (eC (.int 2))) (eNil))))))
      (sl := [.d (.tuple (l.map pr)), .d (.int t), .d (.tuple [.int (x : Nat), .tuple ks]), .d (.int i), .d (.int j), .d (.tuple (l2.mapIdx (oth j))), .d (pr p), .own false (.list ((if key ∈ seen then seen else seen ++ [key]).map (nd i))), .d (.int (x / 2 ^ i : Nat)), .d (nd i key), v10, .d (pr (bel l l2 j p (seen.idxOf key)))]) (x := .tuple ks) rfl
      (eCall_ok (xs := [.tuple (l.map pr), .int (t - (i + 1) : Nat), .int (sel (bel l l2 j p (seen.idxOf key)) (x / 2 ^ i % 2) : Nat), .int (x / 2 ^ (i + 1) : Nat)]) (eCons_ok rfl (eCons_ok (eBin_ok (eBin_ok rfl rfl rfl) rfl hx5) (eCons_ok (eBin_ok rfl (eBin_ok rfl rfl hx4) (sel_ix hbit)) (eCons_ok (eBin_ok rfl rfl hx3) rfl)))) ed)
      (ix_ok (x := ks.getD w (.int 0)) (by rw [List.getD_eq_getElem?_getD, List.getElem?_eq_getElem hwk]; rfl))) rfl
    obtain ⟨s', e9, e10⟩ := ih f (ks.getD w (.int 0)) (if key ∈ seen then seen else seen ++ [key]) (.d (.int (x / 2 ^ i : Nat))) (.d (nd i key)) v10 (.d (pr (bel l l2 j p (seen.idxOf key)))) (by omega) (hk _ (get_mem hwk)) hs2 hm2 .d .d uv .d
    have er : rn l l2 j p i t (left + 1) seen (.tuple [.int (x : Nat), .tuple ks]) = rn l l2 j p i t left (if key ∈ seen then seen else seen ++ [key]) (ks.getD w (.int 0)) := by
      rw [hw, hkey]
      rfl
    rw [er]
    exact ⟨s', (sWhile_t (t := wt_law_tr_met_1) (b := wb_law_tr_met_1) rfl ((sSeq_nx e2).trans ((sSeq_nx e4).trans ((sSeq_nx e5).trans ((sSeq_nx e7).trans e8))))).trans e9, e10⟩
theorem met_ok (h : W3 n N) (hl : Dbl N l) (hit : i < t) (ht : t ≤ 4) (h10 : l2.length ≤ 10) (hlt : ∀ p ∈ l2, p.1 < N ∧ p.2 < N) (hp : p.1 < N ∧ p.2 < N) {a : D} (ha : AOk n t 3 a) (hq : qn 3 a ≤ l2.length) :
    ∃ o, m_law_tr_met [.d (.tuple (l.map pr)), .d (.int t), .d a, .d (.int i), .d (.int j), .d (.tuple (l2.mapIdx (oth j))), .d (pr p)] = .ok (rn l l2 j p i t 3 [] a) o := by
  obtain ⟨s', e1, e2⟩ := metwhile (j := j) h hl hit ht h10 hlt hp 3 5 a [] .un .un .un .un (by decide) ha (by simpa using hq) (fun _ z => nomatch z) .un .un .un .un
  have e3 : sRet (eVar 2) s' = .rt (rn l l2 j p i t 3 [] a) s' := by
    unfold sRet eVar
    rw [e2]
  exact ⟨_, mkFn_rt (np := 7) (n := 12) (as := [.d (.tuple (l.map pr)), .d (.int t), .d a, .d (.int i), .d (.int j), .d (.tuple (l2.mapIdx (oth j))), .d (pr p)]) rfl rfl ((sSeq_nx (show sNew 7 eNil _ = .nx _ from rfl)).trans ((sSeq_nx e1).trans e3))⟩
end
section
variable {n N t i j : Nat} {l l2 : List (Nat × Nat)}
theorem rn_isbit (h : W3 n N) (hl : Dbl N l) (hit : i < t) (ht : t ≤ 4) (h10 : l2.length ≤ 10) (hlt : ∀ p ∈ l2, p.1 < N ∧ p.2 < N) {p : Nat × Nat} (hp : p.1 < N ∧ p.2 < N) {a : D} (ha : AOk n t 3 a) (hq : qn 3 a ≤ l2.length) : bitD (rn l l2 j p i t 3 [] a) := by
  obtain ⟨s', e1, e2, e3⟩ := endwhile (j := j) h hl hit ht h10 hlt hp 3 5 a [] .un .un .un (by decide) ha (by simpa using hq) .un .un .un
  exact e3
/-- the made test -/
def tst (l l2 : List (Nat × Nat)) (j i t N : Nat) (a : D) : List D := (List.range (N * N)).map fun m => rn l l2 j (m % N, m / N) i t 3 [] a
theorem sq_lt {N m : Nat} (h : m < N * N) : m % N < N ∧ m / N < N := by
  have hN : 0 < N := by
    cases N with
    | zero => simp at h
    | succ N => omega
  exact ⟨Nat.mod_lt _ hN, Nat.div_lt_of_lt_mul h⟩
theorem tst_bits (h : W3 n N) (hl : Dbl N l) (hit : i < t) (ht : t ≤ 4) (h10 : l2.length ≤ 10) (hlt : ∀ p ∈ l2, p.1 < N ∧ p.2 < N) {a : D} (ha : AOk n t 3 a) (hq : qn 3 a ≤ l2.length) : ∀ y ∈ tst l l2 j i t N a, bitD y := fun y hy => by
  obtain ⟨m, hm, rfl⟩ := List.mem_map.mp hy
  exact rn_isbit h hl hit ht h10 hlt (sq_lt (List.mem_range.mp hm)) ha hq
theorem testin_ok (h : W3 n N) (hl : Dbl N l) (hit : i < t) (ht : t ≤ 4) (h10 : l2.length ≤ 10) (hlt : ∀ p ∈ l2, p.1 < N ∧ p.2 < N) {a : D} (ha : AOk n t 3 a) (hq : qn 3 a ≤ l2.length) :
    ∃ o, m_test_in [.d (.int n), .d (.tuple (l.map pr)), .d (.int t), .d a, .d (.tuple [.int (i : Nat), .int (j : Nat), .tuple (l2.mapIdx (oth j))])] = .ok (.tuple (tst l l2 j i t N a)) o := by
  have h8 := h.le
  have hNN : N * N ≤ 64 := Nat.le_trans (Nat.mul_le_mul h8.2 h8.2) (by decide)
  have e0 : eBin fShl (eC (.int 1)) (eBin fMul (eC (.int 2)) (eVar 0)) [.d (.int n), .d (.tuple (l.map pr)), .d (.int t), .d a, .d (.tuple [.int (i : Nat), .int (j : Nat), .tuple (l2.mapIdx (oth j))]), .un, .un, .un] = .ok (.int (N * N : Nat)) [.d (.int n), .d (.tuple (l.map pr)), .d (.int t), .d a, .d (.tuple [.int (i : Nat), .int (j : Nat), .tuple (l2.mapIdx (oth j))]), .un, .un, .un] := by
    obtain ⟨hn, hN⟩ := h
    rcases hn with rfl | rfl | rfl <;> (subst hN; rfl)
  have e1 := comp_map (vs := [6]) (g := gNm 6) (tt := tYes') (te := te_test_in_1) (fun d => match d with
    | .int m => pr (m.toNat % N, m.toNat / N)
    | d => d) [.d (.int n), .d (.tuple (l.map pr)), .d (.int t), .d a, .d (.tuple [.int (i : Nat), .int (j : Nat), .tuple (l2.mapIdx (oth j))]), .un, .un, .un] (rangeD 0 (N * N)) fun d hd => by
      obtain ⟨m, _, rfl⟩ := List.mem_map.mp hd
      have k2 := band_mask m n
      have k3 := shr_nat m n
      rw [← h.2] at k2 k3
      have hz : (0 : Int) + ((m : Nat) : Int) = (m : Nat) := by omega
      refine ⟨_, _, _, rfl, rfl, eTup_ok (eCons_ok (a := eBin fBand (eVar 6) (eBin fSub (eBin fShl (eC (.int 1)) (eVar 0)) (eC (.int 1)))) (sl := [.d (.int n), .d (.tuple (l.map pr)), .d (.int t), .d a, .d (.tuple [.int (i : Nat), .int (j : Nat), .tuple (l2.mapIdx (oth j))]), .un, .d (.int (0 + ((m : Nat) : Int))), .un]) (eBin_ok rfl (eBin_ok (eBin_ok rfl rfl h.shl) rfl rfl) (by rw [hz]; exact k2)) (eCons_ok (eBin_ok rfl rfl (by rw [hz]; exact k3)) rfl)) (Nat.le_of_ble_eq_true rfl), rfl⟩
  have e2 : (rangeD 0 (N * N)).map (fun d => match d with
    | .int m => pr (m.toNat % N, m.toNat / N)
    | d => d) = (List.range (N * N)).map fun m => pr (m % N, m / N) := by
    unfold rangeD
    rw [List.map_map]
    refine List.map_congr_left fun m _ => ?_
    show pr (((0 : Int) + (m : Nat)).toNat % N, ((0 : Int) + (m : Nat)).toNat / N) = _
    rw [show ((0 : Int) + (m : Nat)).toNat = m by omega]
  rw [e2] at e1
  have e3 := sSet_ok (i := 5) (comp_ok (range1_ok e0 (by omega)) (by rw [rangeD_length]; omega) rfl e1) rfl
  have e4 := comp_map (vs := [7]) (g := gNm 7) (tt := tYes') (te := te_test_in_2) (fun d => match d with
    | .tuple [.int x, .int y] => rn l l2 j (x.toNat, y.toNat) i t 3 [] a
    | d => d) [.d (.int n), .d (.tuple (l.map pr)), .d (.int t), .d a, .d (.tuple [.int (i : Nat), .int (j : Nat), .tuple (l2.mapIdx (oth j))]), .d (.list ((List.range (N * N)).map fun m => pr (m % N, m / N))), .un, .un] ((List.range (N * N)).map fun m => pr (m % N, m / N)) fun d hd => by
      obtain ⟨m, hm, rfl⟩ := List.mem_map.mp hd
      obtain ⟨o, e⟩ := end_ok (j := j) h hl hit ht h10 hlt (p := (m % N, m / N)) (sq_lt (List.mem_range.mp hm)) ha hq
      exact ⟨_, _, _, rfl, rfl, eCall_ok (args := eCons (eVar 1) (eCons (eVar 2) (eCons (eVar 3) (eCons (eVar 4) (eCons (eVar 7) (eNil)))))) (xs := [.tuple (l.map pr), .int (t : Nat), a, .tuple [.int (i : Nat), .int (j : Nat), .tuple (l2.mapIdx (oth j))], pr (m % N, m / N)]) rfl e, rfl⟩
  rw [List.map_map] at e4
  have e5 := comp_ok (itemsL_ok (e := eVar 5) (sl := [.d (.int n), .d (.tuple (l.map pr)), .d (.int t), .d a, .d (.tuple [.int (i : Nat), .int (j : Nat), .tuple (l2.mapIdx (oth j))]), .d (.list ((List.range (N * N)).map fun m => pr (m % N, m / N))), .un, .un]) rfl) (by rw [List.length_map, List.length_range]; omega) rfl e4
  have e6 := sRet_ok (eUn_ok (f := fTuple) e5 rfl)
  exact ⟨_, mkFn_rt (np := 5) (n := 8) (as := [.d (.int n), .d (.tuple (l.map pr)), .d (.int t), .d a, .d (.tuple [.int (i : Nat), .int (j : Nat), .tuple (l2.mapIdx (oth j))])]) rfl rfl ((sSeq_nx e3).trans e6)⟩
theorem made_ok (h : W3 n N) (hl : Dbl N l) (hit : i < t) (ht : t ≤ 4) (h10 : l2.length ≤ 10) (hlt : ∀ p ∈ l2, p.1 < N ∧ p.2 < N) {a : D} (ha : AOk n t 3 a) (hq : qn 3 a = l2.length) (hj : j < qn 3 a) :
    ∃ o, m_made_test [.d (.int n), .d (.tuple (l.map pr)), .d (.int t), .d a, .d (.int i), .d (.int j), .d (.tuple (l2.mapIdx (oth j)))] = .ok (.tuple (tst l l2 j i t N a)) o := by
  obtain ⟨o1, e1⟩ := reqall_ok h ⟨by omega, ht⟩ hl ha
  obtain ⟨o2, e2⟩ := reqind_ok h hit ht ha hj
  obtain ⟨o3, e3⟩ := qn_ok (t := t) h 3 5 a (by decide) ha
  obtain ⟨o4, e4⟩ := areoth_ok h (q := qn 3 a) hq.symm hj (by omega) hlt
  obtain ⟨o5, e5⟩ := testin_ok (j := j) h hl hit ht h10 hlt ha (by omega)
  have k1 := sExpr_ok (eCall_ok (args := eCons (eVar 0) (eCons (eVar 1) (eCons (eVar 2) (eCons (eVar 3) (eNil))))) (sl := [.d (.int n), .d (.tuple (l.map pr)), .d (.int t), .d a, .d (.int i), .d (.int j), .d (.tuple (l2.mapIdx (oth j)))]) (xs := [.int n, .tuple (l.map pr), .int t, a]) rfl e1)
  have k2 := sExpr_ok (eCall_ok (args := eCons (eVar 2) (eCons (eVar 3) (eCons (eVar 4) (eCons (eVar 5) (eNil))))) (sl := [.d (.int n), .d (.tuple (l.map pr)), .d (.int t), .d a, .d (.int i), .d (.int j), .d (.tuple (l2.mapIdx (oth j)))]) (xs := [.int t, a, .int i, .int j]) rfl e2)
  have k3 := sNever_not (tTru_ok (eCall_ok (args := eCons (eVar 0) (eCons (eCall (m_questions_in 5) (eCons (eVar 3) (eNil))) (eCons (eVar 5) (eCons (eVar 6) (eNil))))) (sl := [.d (.int n), .d (.tuple (l.map pr)), .d (.int t), .d a, .d (.int i), .d (.int j), .d (.tuple (l2.mapIdx (oth j)))]) (xs := [.int n, .int (qn 3 a : Nat), .int j, .tuple (l2.mapIdx (oth j))]) (eCons_ok rfl (eCons_ok (eCall_ok (xs := [a]) rfl e3) (eCons_ok rfl (eCons_ok rfl rfl)))) e4) rfl)
  have k4 := sRet_ok (eCall_ok (args := eCons (eVar 0) (eCons (eVar 1) (eCons (eVar 2) (eCons (eVar 3) (eCons (eTup (eCons (eVar 4) (eCons (eVar 5) (eCons (eVar 6) (eNil))))) (eNil)))))) (sl := [.d (.int n), .d (.tuple (l.map pr)), .d (.int t), .d a, .d (.int i), .d (.int j), .d (.tuple (l2.mapIdx (oth j)))]) (xs := [.int n, .tuple (l.map pr), .int t, a, .tuple [.int (i : Nat), .int (j : Nat), .tuple (l2.mapIdx (oth j))]]) rfl e5)
  exact ⟨_, mkFn_rt (np := 7) (n := 7) (as := [.d (.int n), .d (.tuple (l.map pr)), .d (.int t), .d a, .d (.int i), .d (.int j), .d (.tuple (l2.mapIdx (oth j)))]) rfl rfl ((sSeq_nx k1).trans ((sSeq_nx k2).trans ((sSeq_nx k3).trans k4)))⟩
theorem ltest_ok (h : W3 n N) (hl : Dbl N l) (hit : i < t) (ht : t ≤ 4) (h10 : l2.length ≤ 10) (hlt : ∀ p ∈ l2, p.1 < N ∧ p.2 < N) {a : D} (ha : AOk n t 3 a) (hq : qn 3 a ≤ l2.length) :
    ∃ o, m_law_tr_test [.d (.int n), .d (.tuple (l.map pr)), .d (.int t), .d a, .d (.int i), .d (.int j), .d (.tuple (l2.mapIdx (oth j)))] = .ok (.tuple (tst l l2 j i t N a)) o := by
  have h8 := h.le
  have hNN : N * N ≤ 64 := Nat.le_trans (Nat.mul_le_mul h8.2 h8.2) (by decide)
  have e1 : sParN 7 8 (eBin fIx (eLst (eCons (eC (.int 1)) (eCons (eC (.int 2)) (eCons (eC (.int 4)) (eCons (eC (.int 8)) (eNil)))))) (eVar 0)) [.d (.int n), .d (.tuple (l.map pr)), .d (.int t), .d a, .d (.int i), .d (.int j), .d (.tuple (l2.mapIdx (oth j))), .un, .un, .un, .un] = .nx [.d (.int n), .d (.tuple (l.map pr)), .d (.int t), .d a, .d (.int i), .d (.int j), .d (.tuple (l2.mapIdx (oth j))), .d (.int N), .own false (.list []), .un, .un] := by
    obtain ⟨hn, hN⟩ := h
    rcases hn with rfl | rfl | rfl <;> (subst hN; rfl)
  obtain ⟨s', e2, w9, e3, u9⟩ := sLoop_inv (g := gNm 9) (b := fb_law_tr_test_1)
    (fun s sl => ∃ w9, sl = [.d (.int n), .d (.tuple (l.map pr)), .d (.int t), .d a, .d (.int i), .d (.int j), .d (.tuple (l2.mapIdx (oth j))), .d (.int N), .own false (.list ((List.range (N * s)).map fun m => rn l l2 j (m % N, m / N) i t 3 [] a)), w9, .un] ∧ U w9) (rangeD 0 N) 0 [.d (.int n), .d (.tuple (l.map pr)), .d (.int t), .d a, .d (.int i), .d (.int j), .d (.tuple (l2.mapIdx (oth j))), .d (.int N), .own false (.list []), .un, .un] ⟨_, rfl, .un⟩ fun s y sl hi ⟨w9, e, u9⟩ => by
      subst e
      obtain ⟨hi1, rfl⟩ := rangeD_get hi
      rw [Nat.zero_add]
      have k1 := comp_map (vs := [10]) (g := gNm 10) (tt := tYes') (te := te_law_tr_test_1) (fun d => match d with
        | .int m => rn l l2 j (m.toNat, s) i t 3 [] a
        | d => d) [.d (.int n), .d (.tuple (l.map pr)), .d (.int t), .d a, .d (.int i), .d (.int j), .d (.tuple (l2.mapIdx (oth j))), .d (.int N), .own false (.list ((List.range (N * s)).map fun m => rn l l2 j (m % N, m / N) i t 3 [] a)), .d (.int (0 + (s : Nat))), .un] (rangeD 0 N) fun d hd => by
          obtain ⟨m, hm, rfl⟩ := List.mem_map.mp hd
          obtain ⟨o, e⟩ := met_ok (j := j) h hl hit ht h10 hlt (p := (m, s)) ⟨List.mem_range.mp hm, hi1⟩ ha hq
          have z1 : ((0 : Int) + (m : Nat)) = (m : Nat) := by omega
          have z2 : ((0 : Int) + (s : Nat)) = (s : Nat) := by omega
          rw [z1, z2]
          exact ⟨_, _, _, rfl, rfl, eCall_ok (args := eCons (eVar 1) (eCons (eVar 2) (eCons (eVar 3) (eCons (eVar 4) (eCons (eVar 5) (eCons (eVar 6) (eCons (eTup (eCons (eVar 10) (eCons (eVar 9) (eNil)))) (eNil)))))))) (xs := [.tuple (l.map pr), .int (t : Nat), a, .int (i : Nat), .int (j : Nat), .tuple (l2.mapIdx (oth j)), pr (m, s)]) rfl e, rfl⟩
      have k2 := comp_ok (range1_ok (e := eVar 7) (sl := [.d (.int n), .d (.tuple (l.map pr)), .d (.int t), .d a, .d (.int i), .d (.int j), .d (.tuple (l2.mapIdx (oth j))), .d (.int N), .own false (.list ((List.range (N * s)).map fun m => rn l l2 j (m % N, m / N) i t 3 [] a)), .d (.int (0 + (s : Nat))), .un]) (n := N) rfl (by omega)) (by rw [rangeD_length]; omega) rfl k1
      have hs : N * s ≤ N * N := Nat.mul_le_mul_left _ (by omega)
      have k3 := sExpr_ok (eExt_ok (i := 8) (b := false) (xs := (List.range (N * s)).map fun m => rn l l2 j (m % N, m / N) i t 3 [] a) rfl k2 rfl (by rw [List.length_map, List.length_map, List.length_range, rangeD_length]; omega))
      have k4 : ((List.range (N * s)).map fun m => rn l l2 j (m % N, m / N) i t 3 [] a) ++ (rangeD 0 N).map (fun d => match d with
        | .int m => rn l l2 j (m.toNat, s) i t 3 [] a
        | d => d) = (List.range (N * (s + 1))).map fun m => rn l l2 j (m % N, m / N) i t 3 [] a := by
        rw [Nat.mul_succ, List.range_add, List.map_append, List.map_map]
        unfold rangeD
        rw [List.map_map]
        refine congrArg (List.map (fun m => rn l l2 j (m % N, m / N) i t 3 [] a) (List.range (N * s)) ++ ·) ?_
        refine List.map_congr_left fun m hm => ?_
        have hm := List.mem_range.mp hm
        show rn l l2 j (((0 : Int) + (m : Nat)).toNat, s) i t 3 [] a = rn l l2 j ((N * s + m) % N, (N * s + m) / N) i t 3 [] a
        rw [show ((0 : Int) + (m : Nat)).toNat = m by omega, Nat.mul_add_mod, Nat.mod_eq_of_lt hm, Nat.mul_add_div (by omega), Nat.div_eq_of_lt hm, Nat.add_zero]
      rw [k4] at k3
      exact ⟨_, _, by rcases u9 with rfl | ⟨_, rfl⟩ <;> rfl, .inl k3, _, rfl, .d⟩
  subst e3
  rw [rangeD_length, Nat.zero_add] at e2
  have e4 := (for_ok (b := fb_law_tr_test_1) (g := gNm 9) (range1_ok (e := eVar 7) (sl := [.d (.int n), .d (.tuple (l.map pr)), .d (.int t), .d a, .d (.int i), .d (.int j), .d (.tuple (l2.mapIdx (oth j))), .d (.int N), .own false (.list []), .un, .un]) (n := N) rfl (by omega))).trans e2
  have eb : b_law_tr_test [.d (.int n), .d (.tuple (l.map pr)), .d (.int t), .d a, .d (.int i), .d (.int j), .d (.tuple (l2.mapIdx (oth j))), .un, .un, .un, .un] = .rt (.tuple (tst l l2 j i t N a)) [.d (.int n), .d (.tuple (l.map pr)), .d (.int t), .d a, .d (.int i), .d (.int j), .d (.tuple (l2.mapIdx (oth j))), .d (.int N), .d (.list (tst l l2 j i t N a)), w9, .un] := (sSeq_nx e1).trans ((sSeq_nx e4).trans rfl)
  exact ⟨_, mkFn_rt (np := 7) (n := 11) (as := [.d (.int n), .d (.tuple (l.map pr)), .d (.int t), .d a, .d (.int i), .d (.int j), .d (.tuple (l2.mapIdx (oth j)))]) rfl rfl eb⟩
end
/-! ### edges -/
theorem shared_while : ∀ (fuel a b : Nat), b < fuel → ∃ s', sWhile fuel wt_law_fr_shared_1 wb_law_fr_shared_1 [.d (.int (a : Nat)), .d (.int (b : Nat))] = .nx s' ∧ nth s' 0 = .d (.int (Nat.gcd a b : Nat))
  | 0, _, _, h => absurd h (Nat.not_lt_zero _)
  | f + 1, a, b, h => by
    have c1 := tTru_ok (eBin_ok (f := fGt) (a := eVar 1) (b := eC (.int 0)) (sl := [.d (.int (a : Nat)), .d (.int (b : Nat))]) rfl rfl gt_int) rfl
    by_cases hb : b = 0
    · subst hb
      exact ⟨_, sWhile_f (t := wt_law_fr_shared_1) c1, by rw [Nat.gcd_zero_right]; rfl⟩
    · rw [show decide ((0 : Int) < (b : Int)) = true by rw [decide_eq_true_eq]; omega] at c1
      have e1 := sPar_ok (i := 0) (j := 1) (a := eVar 1) (b := eBin fMod (eVar 0) (eVar 1)) (sl := [.d (.int (a : Nat)), .d (.int (b : Nat))]) rfl (eBin_ok rfl rfl (mod_ok (by omega))) ⟨rfl, rfl⟩
      rw [show (a : Int) % (b : Int) = ((a % b : Nat) : Int) by omega] at e1
      obtain ⟨s', e2, e3⟩ := shared_while f b (a % b) (by have := Nat.mod_lt a (show 0 < b by omega); omega)
      refine ⟨s', (sWhile_t (t := wt_law_fr_shared_1) (b := wb_law_fr_shared_1) c1 e1).trans e2, ?_⟩
      rw [e3, Nat.gcd_comm a b, Nat.gcd_rec b a, Nat.gcd_comm]
theorem gcd_pos' {a b : Nat} (hb : 0 < b) : 0 < Nat.gcd a b ∧ Nat.gcd a b ≤ b := ⟨Nat.gcd_pos_of_pos_right _ hb, Nat.gcd_le_right _ hb⟩
theorem frac_ok (x : Int) {B : Nat} (hB : 0 < B) (hB2 : B ≤ 64) : ∃ o, m_fraction_in [.d (.int x), .d (.int (B : Nat))] = .ok (.tuple [.int (x / (Nat.gcd x.natAbs B : Nat)), .int ((B : Int) / (Nat.gcd x.natAbs B : Nat))]) o := by
  have hg := gcd_pos' (a := x.natAbs) hB
  have c1 := tTru_ok (eBin_ok (f := fGt) (a := eVar 1) (b := eC (.int 0)) (sl := [.d (.int x), .d (.int (B : Nat)), .un]) rfl rfl gt_int) rfl
  rw [show decide ((0 : Int) < (B : Int)) = true by rw [decide_eq_true_eq]; omega] at c1
  have e1 := sSet_ok (i := 2) ((eIf_t (b := eUn fNeg (eBin fGcd (eVar 0) (eVar 1))) c1).trans (eBin_ok (f := fGcd) (a := eVar 0) (b := eVar 1) (sl := [.d (.int x), .d (.int (B : Nat)), .un]) rfl rfl (show _ = some (PyData.int (Nat.gcd x.natAbs B : Nat)) from rfl))) rfl
  have e2 := sRet_ok (eTup_ok (eCons_ok (a := eBin fDiv (eVar 0) (eVar 2)) (sl := [.d (.int x), .d (.int (B : Nat)), .d (.int (Nat.gcd x.natAbs B : Nat))]) (eBin_ok rfl rfl (div_ok (by omega) (by omega))) (eCons_ok (eBin_ok (a := eVar 1) (b := eVar 2) rfl rfl (div_ok (by omega) (by omega))) eNil_ok)) (Nat.le_of_ble_eq_true rfl))
  exact ⟨_, mkFn_rt (np := 2) (n := 3) (as := [.d (.int x), .d (.int (B : Nat))]) rfl rfl ((sSeq_nx e1).trans e2)⟩
theorem lmade_ok (x : Int) {B : Nat} (hB : 0 < B) (hB2 : B ≤ 64) : ∃ o, m_law_fr_made [.d (.int x), .d (.int (B : Nat))] = .ok (.tuple [.int (x / (Nat.gcd x.natAbs B : Nat)), .int ((B : Int) / (Nat.gcd x.natAbs B : Nat))]) o := by
  have hg := gcd_pos' (a := x.natAbs) hB
  have k1 := sPar_ok (i := 0) (j := 1) (a := eUn fAbs (eVar 0)) (b := eUn fAbs (eVar 1)) (sl := [.d (.int x), .d (.int (B : Nat))]) rfl rfl ⟨rfl, rfl⟩
  rw [show (if x < 0 then -x else x) = ((x.natAbs : Nat) : Int) by split <;> omega, show (if (B : Int) < 0 then -(B : Int) else (B : Int)) = ((B : Nat) : Int) from if_neg (by omega)] at k1
  obtain ⟨s', k2, k3⟩ := shared_while 100 x.natAbs B (by omega)
  have k4 : sRet (eVar 0) s' = .rt (.int (Nat.gcd x.natAbs B : Nat)) s' := by
    unfold sRet eVar
    rw [k3]
  have k5 := mkFn_rt (np := 2) (n := 2) (as := [.d (.int x), .d (.int (B : Nat))]) rfl rfl ((sSeq_nx (b := sSeq (sWhile 100 (wt_law_fr_shared_1) (wb_law_fr_shared_1)) (sRet (eVar 0))) k1).trans ((sSeq_nx k2).trans k4))
  have e1 := sSet_ok (i := 2) (eCall_ok (fn := m_law_fr_shared) (args := eCons (eVar 0) (eCons (eVar 1) (eNil))) (sl := [.d (.int x), .d (.int (B : Nat)), .un]) (xs := [.int x, .int (B : Nat)]) rfl k5) rfl
  have c1 := tTru_ok (eBin_ok (f := fLt) (a := eVar 1) (b := eC (.int 0)) (sl := [.d (.int x), .d (.int (B : Nat)), .d (.int (Nat.gcd x.natAbs B : Nat))]) rfl rfl lt_int) rfl
  rw [show decide ((B : Int) < 0) = false by rw [decide_eq_false_iff_not]; omega] at c1
  have e2 := sRet_ok (eTup_ok (eCons_ok (a := eBin fDiv (eVar 0) (eVar 2)) (sl := [.d (.int x), .d (.int (B : Nat)), .d (.int (Nat.gcd x.natAbs B : Nat))]) (eBin_ok rfl rfl (div_ok (by omega) (by omega))) (eCons_ok (eBin_ok (a := eVar 1) (b := eVar 2) rfl rfl (div_ok (by omega) (by omega))) eNil_ok)) (Nat.le_of_ble_eq_true rfl))
  exact ⟨_, mkFn_rt (np := 2) (n := 3) (as := [.d (.int x), .d (.int (B : Nat))]) rfl rfl ((sSeq_nx e1).trans ((sSeq_nx ((sIf_f c1).trans rfl)).trans e2))⟩
theorem bits_ints {xs : List D} (h : ∀ y ∈ xs, bitD y) : ∃ zs : List Int, xs = zs.map .int ∧ ∀ z ∈ zs, 0 ≤ z ∧ z ≤ 1 :=
  all_map (f := .int) (P := fun z => 0 ≤ z ∧ z ≤ 1) fun y hy => by
    rcases h y hy with rfl | rfl
    · exact ⟨0, by decide, rfl⟩
    · exact ⟨1, by decide, rfl⟩
def metI (N : Nat) (l : List (Nat × Nat)) (zs : List Int) : Int := sumI (l.map fun p => zs.getD (p.1 + N * p.2) 0)
section
variable {n N : Nat} {l : List (Nat × Nat)} {zs : List Int}
theorem met_get (hl : Dbl N l) (hz : zs.length = N * N) {p : Nat × Nat} (hp : p ∈ l) : (zs.map PyData.int)[p.1 + N * p.2]? = some (.int (zs.getD (p.1 + N * p.2) 0)) := by
  have h1 := hl.2 p hp
  have h2 : p.1 + N * p.2 < zs.length := by
    rw [hz]
    have : N * (p.2 + 1) ≤ N * N := Nat.mul_le_mul_left _ (by omega)
    rw [Nat.mul_succ] at this
    omega
  rw [List.getElem?_map, List.getElem?_eq_getElem h2, List.getD_eq_getElem?_getD, List.getElem?_eq_getElem h2]
  rfl
theorem met_bd (hl : Dbl N l) (hz : zs.length = N * N) (hb : ∀ z ∈ zs, 0 ≤ z ∧ z ≤ 1) : 0 ≤ metI N l zs ∧ metI N l zs ≤ N := by
  have := sumI_bd (k := 1) (l.map fun p => zs.getD (p.1 + N * p.2) 0) fun x hx => by
    obtain ⟨p, hp, rfl⟩ := List.mem_map.mp hx
    have h1 := met_get hl hz hp
    rw [List.getElem?_map] at h1
    obtain ⟨z, hz1, hz2⟩ := map_some h1
    have : z = zs.getD (p.1 + N * p.2) 0 := PyData.int.inj hz2
    rw [← this]
    exact hb z (List.mem_of_getElem? hz1)
  rw [List.length_map, hl.1] at this
  unfold metI
  exact ⟨this.1, by omega⟩
theorem tops_ok (h : W3 n N) (hl : Dbl N l) (hz : zs.length = N * N) (hb : ∀ z ∈ zs, 0 ≤ z ∧ z ≤ 1) : ∃ o, m_pair_edge_tops [.d (.int n), .d (.tuple (l.map pr)), .d (.tuple (zs.map .int))] = .ok (.int (metI N l zs * N - sumI zs)) o := by
  have h8 := h.le
  have hm := met_bd hl hz hb
  have e1 := comp_map (vs := [4, 5]) (g := gTp 2 (gsCons (gNm 4) (gsCons (gNm 5) gsNil))) (tt := tYes') (te := te_pair_edge_tops_1) (fun d => match d with
    | .tuple [.int x, .int y] => .int (zs.getD (x.toNat + N * y.toNat) 0)
    | d => d) [.d (.int n), .d (.tuple (l.map pr)), .d (.tuple (zs.map .int)), .un, .un, .un] (l.map pr) fun d hd => by
      obtain ⟨p, hp, rfl⟩ := List.mem_map.mp hd
      have k1 := met_get hl hz hp
      have hp2 := hl.2 p hp
      have k2 : fShl (.int (p.2 : Nat)) (.int n) = some (.int ((p.2 : Int) * (N : Nat))) := by
        rw [h.2]
        exact shl_small (by omega) (by have := h.1; omega)
      have k3 : fIx (.tuple (zs.map PyData.int)) (.int ((p.1 : Int) + (p.2 : Int) * (N : Nat))) = some (.int (zs.getD (p.1 + N * p.2) 0)) := by
        rw [show (p.1 : Int) + (p.2 : Int) * (N : Nat) = ((p.1 + N * p.2 : Nat) : Int) by push_cast; rw [Int.mul_comm]]
        exact ix_ok k1
      exact ⟨_, _, _, rfl, rfl, eBin_ok (f := fIx) (a := eVar 2) rfl (eBin_ok rfl (eBin_ok rfl rfl k2) rfl) k3, rfl⟩
  rw [List.map_map] at e1
  have e2 := comp_ok (itemsT_ok (e := eVar 1) (sl := [.d (.int n), .d (.tuple (l.map pr)), .d (.tuple (zs.map .int)), .un, .un, .un]) rfl) (by rw [List.length_map, hl.1]; omega) rfl e1
  have e3 : fSum (.list (l.map ((fun d => match d with
    | .tuple [.int x, .int y] => PyData.int (zs.getD (x.toNat + N * y.toNat) 0)
    | d => d) ∘ pr))) = some (.int (metI N l zs)) := by
    have := sum_ok (l.map fun p => zs.getD (p.1 + N * p.2) 0)
    rw [List.map_map] at this
    exact this
  have e4 := sSet_ok (i := 3) (eUn_ok e2 e3) rfl
  have e5 : fShl (.int (metI N l zs)) (.int n) = some (.int (metI N l zs * (N : Nat))) := by
    rw [h.2]
    exact shl_small (by rw [← h.2]; omega) (by have := h.1; omega)
  have e6 := sRet_ok (eBin_ok (f := fSub) (a := eBin fShl (eVar 3) (eVar 0)) (b := eUn fSum (eVar 2)) (sl := [.d (.int n), .d (.tuple (l.map pr)), .d (.tuple (zs.map .int)), .d (.int (metI N l zs)), .un, .un]) (eBin_ok rfl rfl e5) (eUn_ok rfl (sumT_ok zs)) rfl)
  exact ⟨_, mkFn_rt (np := 3) (n := 6) (as := [.d (.int n), .d (.tuple (l.map pr)), .d (.tuple (zs.map .int))]) rfl rfl ((sSeq_nx e4).trans e6)⟩
def edgeD (N : Nat) (l : List (Nat × Nat)) (zs : List Int) : D := .tuple [.int ((metI N l zs * N - sumI zs) / (Nat.gcd (metI N l zs * N - sumI zs).natAbs (N * N) : Nat)), .int (((N * N : Nat) : Int) / (Nat.gcd (metI N l zs * N - sumI zs).natAbs (N * N) : Nat))]
theorem pedge_ok (h : W3 n N) (hl : Dbl N l) (hz : zs.length = N * N) (hb : ∀ z ∈ zs, 0 ≤ z ∧ z ≤ 1) : ∃ o, m_pair_edge [.d (.int n), .d (.tuple (l.map pr)), .d (.tuple (zs.map .int))] = .ok (edgeD N l zs) o := by
  have h8 := h.le
  have hNN : N * N ≤ 64 := Nat.le_trans (Nat.mul_le_mul h8.2 h8.2) (by decide)
  have hN0 : 0 < N * N := Nat.mul_pos (by omega) (by omega)
  have hs : ∀ sl : Sl, nth sl 0 = .d (.int n) → eBin fShl (eC (.int 1)) (eBin fMul (eC (.int 2)) (eVar 0)) sl = .ok (.int (N * N : Nat)) sl := fun sl hsl => by
    obtain ⟨hn, hN⟩ := h
    have ev : eVar 0 sl = .ok (.int n) sl := by unfold eVar; rw [hsl]
    rcases hn with rfl | rfl | rfl <;> (subst hN; exact eBin_ok rfl (eBin_ok rfl ev rfl) rfl)
  obtain ⟨o1, e1⟩ := reqdbl_ok h hl
  obtain ⟨o2, e2⟩ := arebits_ok (xs := zs.map .int) (fun y hy => by
    obtain ⟨z, hz, rfl⟩ := List.mem_map.mp hy
    have := hb z hz
    have : z = 0 ∨ z = 1 := by omega
    rcases this with rfl | rfl
    · exact .inl rfl
    · exact .inr rfl) (by rw [List.length_map]; omega)
  rw [List.length_map, hz] at e2
  obtain ⟨o3, e3⟩ := tops_ok h hl hz hb
  obtain ⟨o4, e4⟩ := frac_ok (metI N l zs * N - sumI zs) hN0 hNN
  have k1 := sExpr_ok (eCall_ok (args := eCons (eVar 0) (eCons (eVar 1) (eNil))) (sl := [.d (.int n), .d (.tuple (l.map pr)), .d (.tuple (zs.map .int))]) (xs := [.int n, .tuple (l.map pr)]) rfl e1)
  have k2 := sNever_not (tTru_ok (eCall_ok (args := eCons (eVar 2) (eCons (eBin fShl (eC (.int 1)) (eBin fMul (eC (.int 2)) (eVar 0))) (eNil))) (sl := [.d (.int n), .d (.tuple (l.map pr)), .d (.tuple (zs.map .int))]) (xs := [.tuple (zs.map .int), .int (N * N : Nat)]) (eCons_ok rfl (eCons_ok (hs _ rfl) rfl)) e2) rfl)
  have k3 := sRet_ok (eCall_ok (args := eCons (eCall m_pair_edge_tops (eCons (eVar 0) (eCons (eVar 1) (eCons (eVar 2) (eNil))))) (eCons (eBin fShl (eC (.int 1)) (eBin fMul (eC (.int 2)) (eVar 0))) (eNil))) (sl := [.d (.int n), .d (.tuple (l.map pr)), .d (.tuple (zs.map .int))]) (xs := [.int (metI N l zs * N - sumI zs), .int (N * N : Nat)]) (eCons_ok (eCall_ok (xs := [.int n, .tuple (l.map pr), .tuple (zs.map .int)]) rfl e3) (eCons_ok (hs _ rfl) rfl)) e4)
  exact ⟨_, mkFn_rt (np := 3) (n := 3) (as := [.d (.int n), .d (.tuple (l.map pr)), .d (.tuple (zs.map .int))]) rfl rfl ((sSeq_nx k1).trans ((sSeq_nx k2).trans k3))⟩
theorem ledge_ok (h : W3 n N) (hl : Dbl N l) (hz : zs.length = N * N) (hb : ∀ z ∈ zs, 0 ≤ z ∧ z ≤ 1) : ∃ o, m_law_tr_edge [.d (.tuple (l.map pr)), .d (.tuple (zs.map .int))] = .ok (edgeD N l zs) o := by
  have h8 := h.le
  have hNN : N * N ≤ 64 := Nat.le_trans (Nat.mul_le_mul h8.2 h8.2) (by decide)
  have hN0 : 0 < N * N := Nat.mul_pos (by omega) (by omega)
  have hm := met_bd hl hz hb
  have e0 : sSet 2 (eUn fLen (eVar 0)) [.d (.tuple (l.map pr)), .d (.tuple (zs.map .int)), .un, .un, .un, .un] = .nx [.d (.tuple (l.map pr)), .d (.tuple (zs.map .int)), .d (.int N), .un, .un, .un] := by
    have := sSet_ok (i := 2) (e := eUn fLen (eVar 0)) (sl := [.d (.tuple (l.map pr)), .d (.tuple (zs.map .int)), .un, .un, .un, .un]) rfl rfl
    rw [show (((l.map pr).length : Nat) : Int) = (N : Int) by rw [List.length_map, hl.1]] at this
    exact this
  have e1 := comp_map (vs := [4, 5]) (g := gTp 2 (gsCons (gNm 4) (gsCons (gNm 5) gsNil))) (tt := tYes') (te := te_law_tr_edge_1) (fun d => match d with
    | .tuple [.int x, .int y] => .int (zs.getD (x.toNat + N * y.toNat) 0)
    | d => d) [.d (.tuple (l.map pr)), .d (.tuple (zs.map .int)), .d (.int N), .un, .un, .un] (l.map pr) fun d hd => by
      obtain ⟨p, hp, rfl⟩ := List.mem_map.mp hd
      have k1 := met_get hl hz hp
      have hp2 := hl.2 p hp
      have k2 : fMul (.int N) (.int (p.2 : Nat)) = some (.int ((N : Int) * (p.2 : Nat))) := mul_ok (by omega) (by omega)
      have k3 : fIx (.tuple (zs.map PyData.int)) (.int ((p.1 : Int) + (N : Int) * (p.2 : Nat))) = some (.int (zs.getD (p.1 + N * p.2) 0)) := by
        rw [show (p.1 : Int) + (N : Int) * (p.2 : Nat) = ((p.1 + N * p.2 : Nat) : Int) by push_cast; rfl]
        exact ix_ok k1
      exact ⟨_, _, _, rfl, rfl, eBin_ok (f := fIx) (a := eVar 1) rfl (eBin_ok rfl (eBin_ok rfl rfl k2) rfl) k3, rfl⟩
  rw [List.map_map] at e1
  have e2 := comp_ok (itemsT_ok (e := eVar 0) (sl := [.d (.tuple (l.map pr)), .d (.tuple (zs.map .int)), .d (.int N), .un, .un, .un]) rfl) (by rw [List.length_map, hl.1]; omega) rfl e1
  have e3 : fSum (.list (l.map ((fun d => match d with
    | .tuple [.int x, .int y] => PyData.int (zs.getD (x.toNat + N * y.toNat) 0)
    | d => d) ∘ pr))) = some (.int (metI N l zs)) := by
    have := sum_ok (l.map fun p => zs.getD (p.1 + N * p.2) 0)
    rw [List.map_map] at this
    exact this
  have e4 := sSet_ok (i := 3) (eUn_ok e2 e3) rfl
  have e5 : fMul (.int (metI N l zs)) (.int N) = some (.int (metI N l zs * N)) := mul_ok (by omega) (by omega)
  have e6 : fMul (.int N) (.int N) = some (.int ((N * N : Nat) : Int)) := by rw [mul_ok (by omega) (by omega)]; push_cast; rfl
  obtain ⟨o4, e7⟩ := lmade_ok (metI N l zs * N - sumI zs) hN0 hNN
  have k3 := sRet_ok (eCall_ok (args := eCons (eBin fSub (eBin fMul (eVar 3) (eVar 2)) (eUn fSum (eVar 1))) (eCons (eBin fMul (eVar 2) (eVar 2)) (eNil))) (sl := [.d (.tuple (l.map pr)), .d (.tuple (zs.map .int)), .d (.int N), .d (.int (metI N l zs)), .un, .un]) (xs := [.int (metI N l zs * N - sumI zs), .int (N * N : Nat)]) (eCons_ok (eBin_ok (eBin_ok rfl rfl e5) (eUn_ok rfl (sumT_ok zs)) rfl) (eCons_ok (eBin_ok rfl rfl e6) rfl)) e7)
  exact ⟨_, mkFn_rt (np := 2) (n := 6) (as := [.d (.tuple (l.map pr)), .d (.tuple (zs.map .int))]) rfl rfl ((sSeq_nx e0).trans ((sSeq_nx e4).trans k3))⟩
theorem edge_sh : Sh 1 (edgeD N l zs) := Sh.tup fun x hx => by
  rcases List.mem_cons.mp hx with rfl | hx
  · exact Sh.int
  · rw [List.mem_singleton.mp hx]; exact Sh.int
end
/-! ### index 1 or more at level 0: one answer for all pairs -/
theorem rn_const {l l2 : List (Nat × Nat)} {j t : Nat} (hj : 0 < j) (p p' : Nat × Nat) : ∀ (f : Nat) (seen : List Nat) (a : D), seen = [] ∨ seen = [0] → rn l l2 j p 0 t f seen a = rn l l2 j p' 0 t f seen a
  | 0, _, _, _ => rfl
  | f + 1, seen, a, hs => by
    unfold rn
    split
    · rfl
    · rename_i sn _ _ _ f' x ks heq
      cases heq
      have hk : x.toNat % 2 ^ 0 = 0 := by rw [Nat.pow_zero, Nat.mod_one]
      have hb : ∀ q : Nat × Nat, bel l l2 j q 0 = l2.getD 0 (0, 0) := fun q => (if_neg (by omega)).trans (if_pos hj)
      rw [hk]
      have hi : sn.idxOf 0 = 0 := by rcases hs with rfl | rfl <;> rfl
      rw [hi, hb, hb]
      exact rn_const hj p p' f _ _ (by rcases hs with rfl | rfl <;> simp)
    · rfl
theorem dd_rep (b : Int) : ∀ k : Nat, 0 < k → dd (List.replicate k b) = [b]
  | 1, _ => rfl
  | k + 2, _ => by
    rw [List.replicate_succ]
    unfold dd
    rw [if_pos (by simp), dd_rep b (k + 1) (by omega)]
theorem lenset_ok {n N t j : Nat} {l l2 : List (Nat × Nat)} (h : W3 n N) (hl : Dbl N l) (hit : 0 < t) (ht : t ≤ 4) (h10 : l2.length ≤ 10) (hlt : ∀ p ∈ l2, p.1 < N ∧ p.2 < N) {a : D} (ha : AOk n t 3 a) (hq : qn 3 a ≤ l2.length) (hj : 0 < j) : fLenSet (.tuple (tst l l2 j 0 t N a)) = some (.int 1) := by
  have h8 := h.le
  have hNN : N * N ≤ 64 := Nat.le_trans (Nat.mul_le_mul h8.2 h8.2) (by decide)
  have hN0 : 0 < N * N := Nat.mul_pos (by omega) (by omega)
  obtain ⟨b, hb⟩ : ∃ b : Int, rn l l2 j (0, 0) 0 t 3 [] a = .int b := by
    rcases rn_isbit (j := j) h hl hit ht h10 hlt (p := (0, 0)) ⟨by omega, by omega⟩ ha hq with e | e
    · exact ⟨_, e⟩
    · exact ⟨_, e⟩
  have e : tst l l2 j 0 t N a = (List.replicate (N * N) b).map .int := by
    rw [List.map_replicate]
    refine List.eq_replicate_iff.mpr ⟨by unfold tst; rw [List.length_map, List.length_range], fun y hy => ?_⟩
    obtain ⟨m, _, rfl⟩ := List.mem_map.mp hy
    rw [rn_const hj _ (0, 0) 3 [] a (.inl rfl), hb]
  show (intsOf (tst l l2 j 0 t N a)).bind _ = _
  rw [e, intsOf_ints]
  show (if (List.replicate (N * N) b).length ≤ 1000 then some (PyData.int (dd (List.replicate (N * N) b)).length) else none) = _
  rw [if_pos (by rw [List.length_replicate]; omega), dd_rep b _ hN0]
  rfl
/-! ### one drawn case -/
def tailC : List D := [.tuple [.int 1, .int 1], .tuple [.int 1, .int 2], .tuple [.int 1, .int 3], .tuple [.int 1, .int 4], .tuple [.int 2, .int 1], .tuple [.int 2, .int 2], .tuple [.int 2, .int 3], .tuple [.int 3, .int 1], .tuple [.int 3, .int 2]]
theorem tailC_mem {y : D} (h : y ∈ tailC) : ∃ n t : Nat, y = .tuple [.int (n : Nat), .int (t : Nat)] ∧ (n = 1 ∨ n = 2 ∨ n = 3) ∧ 1 ≤ t ∧ t ≤ 4 := by
  unfold tailC at h
  simp only [List.mem_cons, List.not_mem_nil, or_false] at h
  rcases h with rfl | rfl | rfl | rfl | rfl | rfl | rfl | rfl | rfl
  · exact ⟨1, 1, rfl, .inl rfl, by decide, by decide⟩
  · exact ⟨1, 2, rfl, .inl rfl, by decide, by decide⟩
  · exact ⟨1, 3, rfl, .inl rfl, by decide, by decide⟩
  · exact ⟨1, 4, rfl, .inl rfl, by decide, by decide⟩
  · exact ⟨2, 1, rfl, .inr (.inl rfl), by decide, by decide⟩
  · exact ⟨2, 2, rfl, .inr (.inl rfl), by decide, by decide⟩
  · exact ⟨2, 3, rfl, .inr (.inl rfl), by decide, by decide⟩
  · exact ⟨3, 1, rfl, .inr (.inr rfl), by decide, by decide⟩
  · exact ⟨3, 2, rfl, .inr (.inr rfl), by decide, by decide⟩
theorem Ht.lst {k : Nat} {h : D} (x : Ht k h) : ∃ ys, h = .list ys := by
  obtain ⟨g, s, c, e, _⟩ := x
  exact ⟨_, e⟩
theorem callIO {fn : Fn} {h h' x : D} {rest : Sl} {args : Exs} {xs : List D} {o : Sl} {k : Nat} (hh : Ht k h) (ha : args (.own true h :: rest) = .ok xs (.own true h :: rest)) (hf : fn (.own true h :: xs.map .d) = .ok x (.own true h' :: o)) : eCallIO fn 0 args (.own true h :: rest) = .ok x (.own true h' :: rest) := by
  obtain ⟨ys, rfl⟩ := hh.lst
  exact eCallIO_ok (i := 0) (sl := .own true (.list ys) :: rest) rfl ha rfl hf
theorem body_ok {n N t : Nat} {l : List (Nat × Nat)} {a test : D} (h : W3 n N) (hl : Dbl N l) (ht : 1 ≤ t ∧ t ≤ 4) (ha : AOk n t 3 a) (hq0 : 0 < qn 3 a) {k : Nat} {hat : D} (x : Ht k hat) (hk : k + 22 < 1000000000) {w8 w9 w10 w11 w7 : W} (u8 : U w8) (u9 : U w9) (u10 : U w10) (u11 : U w11) :
    ∃ h' v8 v9 v10 v11, fb_law_right_1 [.own true hat, .d (.int n), .d (.int t), .d (.tuple (l.map pr)), .d a, .d test, .d (.int (qn 3 a : Nat)), w7, w8, w9, w10, w11] = .nx [.own true h', .d (.int n), .d (.int t), .d (.tuple (l.map pr)), .d a, .d test, .d (.int (qn 3 a : Nat)), w7, v8, v9, v10, v11] ∧ U v8 ∧ U v9 ∧ U v10 ∧ U v11 ∧ Ht (k + 22) h' := by
  have h8 := h.le
  have hq3 := qn_le ha
  obtain ⟨i, h1, e1, hi, x1⟩ := up2_ok (i := 0) (rest := [.d (.int n), .d (.int t), .d (.tuple (l.map pr)), .d a, .d test, .d (.int (qn 3 a : Nat)), w7, w8, w9, w10, w11]) x (by omega) (eCons (eVar 2) eNil) (n := t) (by omega) (by omega) (fun _ => rfl)
  obtain ⟨j, h2, e2, hj, x2⟩ := up2_ok (i := 0) (rest := [.d (.int n), .d (.int t), .d (.tuple (l.map pr)), .d a, .d test, .d (.int (qn 3 a : Nat)), w7, w8, w9, w10, w11]) x1 (by omega) (eCons (eVar 6) eNil) (n := (qn 3 a : Nat)) (by omega) (by omega) (fun _ => rfl)
  have k1 := sPar_ok (i := 8) (j := 9) e1 e2 ⟨by rcases u8 with rfl | ⟨_, rfl⟩ <;> rfl, by rcases u9 with rfl | ⟨_, rfl⟩ <;> rfl⟩
  obtain ⟨l2, h3, o3, e3, hl2, hlt, x3⟩ := oth_ok (n := n) (q := qn 3 a) (j := j) h.1 (by omega) x2 (by omega)
  rw [← h.2] at hlt
  have k2 := sSet_ok (i := 10) (callIO (args := eCons (eVar 1) (eCons (eVar 6) (eCons (eVar 9) (eNil)))) (rest := [.d (.int n), .d (.int t), .d (.tuple (l.map pr)), .d a, .d test, .d (.int (qn 3 a : Nat)), w7, .d (.int (i : Nat)), .d (.int (j : Nat)), w10, w11]) (xs := [.int n, .int (qn 3 a : Nat), .int j]) x2 rfl e3) (by rcases u10 with rfl | ⟨_, rfl⟩ <;> rfl)
  have hit : i < t := by omega
  have hjq : j < qn 3 a := by omega
  obtain ⟨o4, e4⟩ := made_ok (j := j) h hl hit ht.2 (by omega) hlt ha hl2.symm hjq
  have k3 := sSet_ok (i := 11) (eCall_ok (args := eCons (eVar 1) (eCons (eVar 3) (eCons (eVar 2) (eCons (eVar 4) (eCons (eVar 8) (eCons (eVar 9) (eCons (eVar 10) (eNil)))))))) (sl := [.own true h3, .d (.int n), .d (.int t), .d (.tuple (l.map pr)), .d a, .d test, .d (.int (qn 3 a : Nat)), w7, .d (.int (i : Nat)), .d (.int (j : Nat)), .d (.tuple (l2.mapIdx (oth j))), w11]) (xs := [.int n, .tuple (l.map pr), .int t, a, .int i, .int j, .tuple (l2.mapIdx (oth j))]) rfl e4) (by rcases u11 with rfl | ⟨_, rfl⟩ <;> rfl)
  obtain ⟨o5, e5⟩ := ltest_ok (j := j) h hl hit ht.2 (by omega) hlt ha (by omega)
  have hbits := tst_bits (j := j) h hl hit ht.2 (by omega) hlt ha (by omega)
  obtain ⟨zs, hzs, hzb⟩ := bits_ints hbits
  have hzl : zs.length = N * N := by
    have := congrArg List.length hzs
    rw [List.length_map] at this
    rw [← this]
    unfold tst
    rw [List.length_map, List.length_range]
  have hsh : Sh 1 (.tuple (tst l l2 j i t N a)) := Sh.tup fun y hy => by
    rcases hbits y hy with rfl | rfl <;> exact Sh.int
  have c1 := tTru_ok (eBin_ok (f := fNe) (a := eVar 11) (b := eCall m_law_tr_test (eCons (eVar 1) (eCons (eVar 3) (eCons (eVar 2) (eCons (eVar 4) (eCons (eVar 8) (eCons (eVar 9) (eCons (eVar 10) (eNil))))))))) (sl := [.own true h3, .d (.int n), .d (.int t), .d (.tuple (l.map pr)), .d a, .d test, .d (.int (qn 3 a : Nat)), w7, .d (.int (i : Nat)), .d (.int (j : Nat)), .d (.tuple (l2.mapIdx (oth j))), .d (.tuple (tst l l2 j i t N a))]) rfl (eCall_ok (xs := [.int n, .tuple (l.map pr), .int t, a, .int i, .int j, .tuple (l2.mapIdx (oth j))]) rfl e5) (ne_self hsh (by decide))) rfl
  obtain ⟨o6, e6⟩ := pedge_ok h hl hzl hzb
  obtain ⟨o7, e7⟩ := ledge_ok h hl hzl hzb
  rw [← hzs] at e6 e7
  have c2 := tTru_ok (eBin_ok (f := fNe) (a := eCall m_pair_edge (eCons (eVar 1) (eCons (eVar 3) (eCons (eVar 11) (eNil))))) (b := eCall m_law_tr_edge (eCons (eVar 3) (eCons (eVar 11) (eNil)))) (sl := [.own true h3, .d (.int n), .d (.int t), .d (.tuple (l.map pr)), .d a, .d test, .d (.int (qn 3 a : Nat)), w7, .d (.int (i : Nat)), .d (.int (j : Nat)), .d (.tuple (l2.mapIdx (oth j))), .d (.tuple (tst l l2 j i t N a))]) (eCall_ok (xs := [.int n, .tuple (l.map pr), .tuple (tst l l2 j i t N a)]) rfl e6) (eCall_ok (xs := [.tuple (l.map pr), .tuple (tst l l2 j i t N a)]) rfl e7) (ne_self edge_sh (by decide))) rfl
  have c3 : tAnd' (tTru (eBin fEq (eVar 8) (eC (.int 0)))) (tAnd' (tTru (eBin fGt (eVar 9) (eC (.int 0)))) (tTru (eBin fNe (eUn fLenSet (eVar 11)) (eC (.int 1))))) [.own true h3, .d (.int n), .d (.int t), .d (.tuple (l.map pr)), .d a, .d test, .d (.int (qn 3 a : Nat)), w7, .d (.int (i : Nat)), .d (.int (j : Nat)), .d (.tuple (l2.mapIdx (oth j))), .d (.tuple (tst l l2 j i t N a))] = .ok false [.own true h3, .d (.int n), .d (.int t), .d (.tuple (l.map pr)), .d a, .d test, .d (.int (qn 3 a : Nat)), w7, .d (.int (i : Nat)), .d (.int (j : Nat)), .d (.tuple (l2.mapIdx (oth j))), .d (.tuple (tst l l2 j i t N a))] := by
    have d1 := tTru_ok (eBin_ok (f := fEq) (a := eVar 8) (b := eC (.int 0)) (sl := [.own true h3, .d (.int n), .d (.int t), .d (.tuple (l.map pr)), .d a, .d test, .d (.int (qn 3 a : Nat)), w7, .d (.int (i : Nat)), .d (.int (j : Nat)), .d (.tuple (l2.mapIdx (oth j))), .d (.tuple (tst l l2 j i t N a))]) rfl rfl eq_int) rfl
    have d2 := tTru_ok (eBin_ok (f := fGt) (a := eVar 9) (b := eC (.int 0)) (sl := [.own true h3, .d (.int n), .d (.int t), .d (.tuple (l.map pr)), .d a, .d test, .d (.int (qn 3 a : Nat)), w7, .d (.int (i : Nat)), .d (.int (j : Nat)), .d (.tuple (l2.mapIdx (oth j))), .d (.tuple (tst l l2 j i t N a))]) rfl rfl gt_int) rfl
    by_cases z : i = 0
    · rw [show ((i : Int) == 0) = true by rw [beq_iff_eq]; omega] at d1
      by_cases z2 : 0 < j
      · rw [show decide ((0 : Int) < (j : Int)) = true by rw [decide_eq_true_eq]; omega] at d2
        subst z
        exact (tAnd_t d1).trans ((tAnd_t d2).trans (tTru_ok (eBin_ok (f := fNe) (eUn_ok (f := fLenSet) (e := eVar 11) rfl (lenset_ok h hl hit ht.2 (by omega) hlt ha (by omega) z2)) rfl ne_int) rfl))
      · rw [show decide ((0 : Int) < (j : Int)) = false by rw [decide_eq_false_iff_not]; omega] at d2
        exact (tAnd_t d1).trans (tAnd_f d2)
    · rw [show ((i : Int) == 0) = false from beq_eq_false_iff_ne.mpr (by omega)] at d1
      exact tAnd_f d1
  exact ⟨h3, _, _, _, _, (sSeq_nx k1).trans ((sSeq_nx k2).trans ((sSeq_nx k3).trans ((sSeq_nx ((sIf_f c1).trans rfl)).trans ((sSeq_nx ((sIf_f c2).trans rfl)).trans ((sIf_f c3).trans rfl))))), .d, .d, .d, .d, x3⟩
theorem right_ok {k : Nat} {hat : D} (x : Ht k hat) (hk : k + 1000 < 1000000000) : ∃ h' o, m_law_right [.own true hat] = .ok (.bool true) (.own true h' :: o) ∧ Ht (k + 1000) h' := by
  obtain ⟨y, h1, o1, e1, hy, x1⟩ := of_ok (xs := tailC) x (by omega) (by decide) (by decide)
  obtain ⟨n, t, rfl, hn, ht⟩ := tailC_mem hy
  obtain ⟨N, hN⟩ : ∃ N, N = 2 ^ n := ⟨_, rfl⟩
  have h : W3 n N := ⟨hn, hN⟩
  have h8 := h.le
  have k1 : sAsg (eCallIO m_law_fr_of 0 (eCons (eLst (eCons (eTup (eCons (eC (.int 1)) (eCons (eC (.int 1)) (eNil)))) (eCons (eTup (eCons (eC (.int 1)) (eCons (eC (.int 2)) (eNil)))) (eCons (eTup (eCons (eC (.int 1)) (eCons (eC (.int 3)) (eNil)))) (eCons (eTup (eCons (eC (.int 1)) (eCons (eC (.int 4)) (eNil)))) (eCons (eTup (eCons (eC (.int 2)) (eCons (eC (.int 1)) (eNil)))) (eCons (eTup (eCons (eC (.int 2)) (eCons (eC (.int 2)) (eNil)))) (eCons (eTup (eCons (eC (.int 2)) (eCons (eC (.int 3)) (eNil)))) (eCons (eTup (eCons (eC (.int 3)) (eCons (eC (.int 1)) (eNil)))) (eCons (eTup (eCons (eC (.int 3)) (eCons (eC (.int 2)) (eNil)))) (eNil))))))))))) (eNil))) (gTp 2 (gsCons (gNm 1) (gsCons (gNm 2) gsNil))) [.own true hat, .un, .un, .un, .un, .un, .un, .un, .un, .un, .un, .un] = .nx [.own true h1, .d (.int n), .d (.int t), .un, .un, .un, .un, .un, .un, .un, .un, .un] := by
    have := callIO (fn := m_law_fr_of) (h' := h1) (rest := [.un, .un, .un, .un, .un, .un, .un, .un, .un, .un, .un]) (args := eCons (eLst (eCons (eTup (eCons (eC (.int 1)) (eCons (eC (.int 1)) (eNil)))) (eCons (eTup (eCons (eC (.int 1)) (eCons (eC (.int 2)) (eNil)))) (eCons (eTup (eCons (eC (.int 1)) (eCons (eC (.int 3)) (eNil)))) (eCons (eTup (eCons (eC (.int 1)) (eCons (eC (.int 4)) (eNil)))) (eCons (eTup (eCons (eC (.int 2)) (eCons (eC (.int 1)) (eNil)))) (eCons (eTup (eCons (eC (.int 2)) (eCons (eC (.int 2)) (eNil)))) (eCons (eTup (eCons (eC (.int 2)) (eCons (eC (.int 3)) (eNil)))) (eCons (eTup (eCons (eC (.int 3)) (eCons (eC (.int 1)) (eNil)))) (eCons (eTup (eCons (eC (.int 3)) (eCons (eC (.int 2)) (eNil)))) (eNil))))))))))) (eNil)) (xs := [.list tailC]) x rfl e1
    unfold sAsg
    rw [this]
    rfl
  obtain ⟨l, h2, o2, e2, hl, x2⟩ := dbl_ok (n := n) x1 (by omega) hn
  rw [← hN] at hl
  have k2 := sSet_ok (i := 3) (callIO (h' := h2) (args := eCons (eVar 1) (eNil)) (rest := [.d (.int n), .d (.int t), .un, .un, .un, .un, .un, .un, .un, .un, .un]) (xs := [.int n]) x1 rfl e2) rfl
  -- how many questions at most
  obtain ⟨L, h3, hL, eL, x3⟩ : ∃ (L : Nat) (h3 : D), L ≤ 3 ∧ eIf (tTru (eBin fLt (eVar 1) (eC (.int 3)))) (eCallIO m_law_fr_of 0 (eCons (eLst (eCons (eC (.int 1)) (eCons (eC (.int 2)) (eCons (eC (.int 2)) (eCons (eC (.int 3)) (eNil)))))) (eNil))) (eBin fAdd (eC (.int 1)) (eCallIO m_law_fr_up 0 (eCons (eC (.int 2)) (eNil)))) [.own true h2, .d (.int n), .d (.int t), .d (.tuple (l.map pr)), .un, .un, .un, .un, .un, .un, .un, .un] = .ok (.int L) [.own true h3, .d (.int n), .d (.int t), .d (.tuple (l.map pr)), .un, .un, .un, .un, .un, .un, .un, .un] ∧ Ht (k + 19) h3 := by
    have c1 := tTru_ok (eBin_ok (f := fLt) (a := eVar 1) (b := eC (.int 3)) (sl := [.own true h2, .d (.int n), .d (.int t), .d (.tuple (l.map pr)), .un, .un, .un, .un, .un, .un, .un, .un]) rfl rfl lt_int) rfl
    by_cases c : n < 3
    · rw [show decide ((n : Int) < 3) = true by rw [decide_eq_true_eq]; omega] at c1
      obtain ⟨y, h3, o3, e3, hy, x3⟩ := of_ok (xs := [.int 1, .int 2, .int 2, .int 3]) x2 (by omega) (by decide) (by decide)
      have hy' : ∃ L : Nat, y = .int L ∧ L ≤ 3 := by
        simp only [List.mem_cons, List.not_mem_nil, or_false] at hy
        rcases hy with rfl | rfl | rfl | rfl
        · exact ⟨1, rfl, by decide⟩
        · exact ⟨2, rfl, by decide⟩
        · exact ⟨2, rfl, by decide⟩
        · exact ⟨3, rfl, by decide⟩
      obtain ⟨L, rfl, hL⟩ := hy'
      exact ⟨L, h3, hL, (eIf_t c1).trans (callIO (h' := h3) (xs := [.list [.int 1, .int 2, .int 2, .int 3]]) x2 rfl e3), x3⟩
    · rw [show decide ((n : Int) < 3) = false by rw [decide_eq_false_iff_not]; omega] at c1
      obtain ⟨r, h3, e3, hr, x3⟩ := up2_ok (i := 0) (rest := [.d (.int n), .d (.int t), .d (.tuple (l.map pr)), .un, .un, .un, .un, .un, .un, .un, .un]) x2 (by omega) (eCons (eC (.int 2)) eNil) (n := 2) (by omega) (by omega) (fun _ => rfl)
      refine ⟨1 + r, h3, by omega, (eIf_f c1).trans (eBin_ok (f := fAdd) rfl e3 ?_), x3⟩
      show some (PyData.int (1 + (r : Int))) = some (PyData.int ((1 + r : Nat) : Int))
      rw [show (1 : Int) + (r : Int) = ((1 + r : Nat) : Int) by omega]
  have hC : Cask L ≤ 658 := by
    have : L = 0 ∨ L = 1 ∨ L = 2 ∨ L = 3 := by omega
    rcases this with rfl | rfl | rfl | rfl <;> decide
  obtain ⟨a, h4, o4, e4, ha, x4⟩ := ask_ok hn ht.2 L 5 _ h3 (by omega) x3 (by omega)
  have ha := ha.three hL
  have k3 : sSet 4 (eCallIO (m_law_tr_asker 5) 0 (eCons (eVar 1) (eCons (eVar 2) (eCons (eIf (tTru (eBin fLt (eVar 1) (eC (.int 3)))) (eCallIO m_law_fr_of 0 (eCons (eLst (eCons (eC (.int 1)) (eCons (eC (.int 2)) (eCons (eC (.int 2)) (eCons (eC (.int 3)) (eNil)))))) (eNil))) (eBin fAdd (eC (.int 1)) (eCallIO m_law_fr_up 0 (eCons (eC (.int 2)) (eNil))))) (eNil))))) [.own true h2, .d (.int n), .d (.int t), .d (.tuple (l.map pr)), .un, .un, .un, .un, .un, .un, .un, .un] =
      .nx [.own true h4, .d (.int n), .d (.int t), .d (.tuple (l.map pr)), .d a, .un, .un, .un, .un, .un, .un, .un] := by
    obtain ⟨ys2, hys2⟩ := x2.lst
    obtain ⟨ys3, hys3⟩ := x3.lst
    have := eCallIO_ok (fn := m_law_tr_asker 5) (i := 0) (sl := [.own true h2, .d (.int n), .d (.int t), .d (.tuple (l.map pr)), .un, .un, .un, .un, .un, .un, .un, .un]) (by rw [hys2]; rfl) (eCons_ok (a := eVar 1) rfl (eCons_ok (a := eVar 2) rfl (eCons_ok eL eNil_ok))) rfl e4
    exact sSet_ok this rfl
  obtain ⟨ys, h5, o5, e5, hyl, hyb, x5⟩ := bits_ok (m := N * N) x4 (by have : N * N ≤ 64 := Nat.le_trans (Nat.mul_le_mul h8.2 h8.2) (by decide); omega) (by have : N * N ≤ 64 := Nat.le_trans (Nat.mul_le_mul h8.2 h8.2) (by decide); omega)
  have hNN : N * N ≤ 64 := Nat.le_trans (Nat.mul_le_mul h8.2 h8.2) (by decide)
  have k4 : sSet 5 (eCallIO m_law_fr_bits 0 (eCons (eBin fIx (eLst (eCons (eC (.int 1)) (eCons (eC (.int 4)) (eCons (eC (.int 16)) (eCons (eC (.int 64)) (eNil)))))) (eVar 1)) (eNil))) [.own true h4, .d (.int n), .d (.int t), .d (.tuple (l.map pr)), .d a, .un, .un, .un, .un, .un, .un, .un] = .nx [.own true h5, .d (.int n), .d (.int t), .d (.tuple (l.map pr)), .d a, .d (.tuple ys), .un, .un, .un, .un, .un, .un] := by
    refine sSet_ok (callIO (h' := h5) (rest := [.d (.int n), .d (.int t), .d (.tuple (l.map pr)), .d a, .un, .un, .un, .un, .un, .un, .un]) (xs := [.int (N * N : Nat)]) x4 ?_ e5) rfl
    rcases hn with rfl | rfl | rfl <;> (subst hN; rfl)
  obtain ⟨zs, rfl, hzb⟩ := bits_ints hyb
  rw [List.length_map] at hyl
  obtain ⟨o6, e6⟩ := pedge_ok h hl hyl hzb
  obtain ⟨o7, e7⟩ := ledge_ok h hl hyl hzb
  have c2 := tTru_ok (eBin_ok (f := fNe) (a := eCall m_pair_edge (eCons (eVar 1) (eCons (eVar 3) (eCons (eVar 5) (eNil))))) (b := eCall m_law_tr_edge (eCons (eVar 3) (eCons (eVar 5) (eNil)))) (sl := [.own true h5, .d (.int n), .d (.int t), .d (.tuple (l.map pr)), .d a, .d (.tuple (zs.map .int)), .un, .un, .un, .un, .un, .un]) (eCall_ok (xs := [.int n, .tuple (l.map pr), .tuple (zs.map .int)]) rfl e6) (eCall_ok (xs := [.tuple (l.map pr), .tuple (zs.map .int)]) rfl e7) (ne_self edge_sh (by decide))) rfl
  obtain ⟨o8, e8⟩ := quest_ok h ht ha
  have k5 := sSet_ok (i := 6) (eCall_ok (args := eCons (eVar 1) (eCons (eVar 2) (eCons (eVar 4) (eNil)))) (sl := [.own true h5, .d (.int n), .d (.int t), .d (.tuple (l.map pr)), .d a, .d (.tuple (zs.map .int)), .un, .un, .un, .un, .un, .un]) (xs := [.int n, .int t, a]) rfl e8) rfl
  obtain ⟨m, hm, hm0, em⟩ : ∃ m : Nat, m ≤ 3 ∧ (0 < m → 0 < qn 3 a) ∧ eIf (tTru (eBin fGt (eVar 6) (eC (.int 0)))) (eC (.int 3)) (eC (.int 0)) [.own true h5, .d (.int n), .d (.int t), .d (.tuple (l.map pr)), .d a, .d (.tuple (zs.map .int)), .d (.int (qn 3 a : Nat)), .un, .un, .un, .un, .un] = .ok (.int m) [.own true h5, .d (.int n), .d (.int t), .d (.tuple (l.map pr)), .d a, .d (.tuple (zs.map .int)), .d (.int (qn 3 a : Nat)), .un, .un, .un, .un, .un] := by
    have c1 := tTru_ok (eBin_ok (f := fGt) (a := eVar 6) (b := eC (.int 0)) (sl := [.own true h5, .d (.int n), .d (.int t), .d (.tuple (l.map pr)), .d a, .d (.tuple (zs.map .int)), .d (.int (qn 3 a : Nat)), .un, .un, .un, .un, .un]) rfl rfl gt_int) rfl
    by_cases c : 0 < qn 3 a
    · rw [show decide ((0 : Int) < (qn 3 a : Nat)) = true by rw [decide_eq_true_eq]; omega] at c1
      exact ⟨3, by decide, fun _ => c, (eIf_t c1).trans rfl⟩
    · rw [show decide ((0 : Int) < (qn 3 a : Nat)) = false by rw [decide_eq_false_iff_not]; omega] at c1
      exact ⟨0, by decide, fun z => absurd z (by decide), (eIf_f c1).trans rfl⟩
  obtain ⟨s', e9, h6, w7, w8, w9, w10, w11, q9, u7, u8, u9, u10, u11, x6⟩ := sLoop_inv (g := gNm 7) (b := fb_law_right_1)
    (fun s sl => ∃ h' w7 w8 w9 w10 w11, sl = [.own true h', .d (.int n), .d (.int t), .d (.tuple (l.map pr)), .d a, .d (.tuple (zs.map .int)), .d (.int (qn 3 a : Nat)), w7, w8, w9, w10, w11] ∧ U w7 ∧ U w8 ∧ U w9 ∧ U w10 ∧ U w11 ∧ Ht (k + 19 + Cask L + N * N + 22 * s) h') (rangeD 0 m) 0 [.own true h5, .d (.int n), .d (.int t), .d (.tuple (l.map pr)), .d a, .d (.tuple (zs.map .int)), .d (.int (qn 3 a : Nat)), .un, .un, .un, .un, .un] ⟨h5, _, _, _, _, _, rfl, .un, .un, .un, .un, .un, x5⟩ fun s y sl hi ⟨h', w7, w8, w9, w10, w11, e, u7, u8, u9, u10, u11, x'⟩ => by
      subst e
      obtain ⟨hi1, rfl⟩ := rangeD_get hi
      obtain ⟨h7, v8, v9, v10, v11, e, v8u, v9u, v10u, v11u, x7⟩ := body_ok (test := .tuple (zs.map .int)) (w7 := .d (.int (0 + (s : Nat)))) h hl ht ha (hm0 (by omega)) x' (by omega) u8 u9 u10 u11
      exact ⟨_, _, by rcases u7 with rfl | ⟨_, rfl⟩ <;> rfl, .inl e, h7, _, _, _, _, _, rfl, .d, v8u, v9u, v10u, v11u, by rw [show k + 19 + Cask L + N * N + 22 * (0 + s + 1) = k + 19 + Cask L + N * N + 22 * (0 + s) + 22 by omega]; exact x7⟩
  subst q9
  rw [rangeD_length] at x6
  have k6 := (for_ok (b := fb_law_right_1) (g := gNm 7) (range1_ok em (by omega))).trans e9
  have eb : b_law_right [.own true hat, .un, .un, .un, .un, .un, .un, .un, .un, .un, .un, .un] = .rt (.bool true) [.own true h6, .d (.int n), .d (.int t), .d (.tuple (l.map pr)), .d a, .d (.tuple (zs.map .int)), .d (.int (qn 3 a : Nat)), w7, w8, w9, w10, w11] :=
    (sSeq_nx k1).trans ((sSeq_nx k2).trans ((sSeq_nx k3).trans ((sSeq_nx k4).trans ((sSeq_nx ((sIf_f c2).trans rfl)).trans ((sSeq_nx k5).trans ((sSeq_nx k6).trans (sRet_ok rfl)))))))
  exact ⟨h6, _, mkFn_rt (np := 1) (n := 12) (as := [.own true hat]) rfl rfl eb, x6.mono (by omega)⟩
def isT1 : RS → Bool
  | .rt (.bool true) _ => true
  | _ => false
theorem isT1_eq {r : RS} (h : isT1 r = true) : ∃ s, r = .rt (.bool true) s := by
  unfold isT1 at h
  split at h
  · exact ⟨_, rfl⟩
  · cases h
def tailB : Sx := (sSeq (sAsg (eTup (eCons (eTup (eCons (eTup (eCons (eC (.int 0)) (eCons (eC (.int 1)) (eNil)))) (eCons (eTup (eCons (eC (.int 1)) (eCons (eC (.int 0)) (eNil)))) (eNil)))) (eCons (eTup (eCons (eC (.int 0)) (eCons (eTup (eCons (eTup (eCons (eC (.int 1)) (eCons (eTup (eCons (eC (.int 0)) (eCons (eC (.int 1)) (eNil)))) (eNil)))) (eCons (eTup (eCons (eC (.int 1)) (eCons (eTup (eCons (eC (.int 1)) (eCons (eC (.int 0)) (eNil)))) (eNil)))) (eNil)))) (eNil)))) (eNil)))) (gTp 2 (gsCons (gNm 3) (gsCons (gNm 4) gsNil))))
    (sSeq (sSetLcO 5 (eItems (eTup (eCons (eC (.int 0)) (eCons (eC (.int 1)) (eNil))))) [6] (gNm 6) (tYes') (te_law_1))
    (sSeq (sSet 5 (eBin fAdd (eVar 5) (eComp (eItems (eTup (eCons (eTup (eCons (eC (.int 0)) (eCons (eC (.int 1)) (eNil)))) (eCons (eTup (eCons (eC (.int 1)) (eCons (eC (.int 1)) (eNil)))) (eNil))))) [7] (gNm 7) (tYes') (te_law_2))))
    (sSeq (sIf (tTru (eBin fNe (eVar 5) (eLst (eCons (eTup (eCons (eC (.int 0)) (eCons (eC (.int 1)) (eCons (eC (.int 1)) (eCons (eC (.int 0)) (eNil)))))) (eCons (eTup (eCons (eC (.int 0)) (eCons (eC (.int 1)) (eCons (eC (.int 1)) (eCons (eC (.int 0)) (eNil)))))) (eCons (eTup (eCons (eC (.int 1)) (eCons (eC (.int 1)) (eCons (eC (.int 1)) (eCons (eC (.int 1)) (eNil)))))) (eCons (eTup (eCons (eC (.int 0)) (eCons (eC (.int 0)) (eCons (eC (.int 0)) (eCons (eC (.int 0)) (eNil)))))) (eNil)))))))) (sRet (eC (.bool false))) (sSkip))
    (sSeq (sIf (tTru (eBin fNe (eComp (eItems (eTup (eCons (eTup (eCons (eC (.int 0)) (eCons (eC (.int 1)) (eCons (eC (.int 1)) (eCons (eC (.int 0)) (eNil)))))) (eCons (eTup (eCons (eC (.int 1)) (eCons (eC (.int 0)) (eCons (eC (.int 0)) (eCons (eC (.int 0)) (eNil)))))) (eCons (eTup (eCons (eC (.int 1)) (eCons (eC (.int 1)) (eCons (eC (.int 1)) (eCons (eC (.int 1)) (eNil)))))) (eNil)))))) [8] (gNm 8) (tYes') (te_law_3)) (eLst (eCons (eTup (eCons (eC (.int 1)) (eCons (eC (.int 2)) (eNil)))) (eCons (eTup (eCons (eUn fNeg (eC (.int 1))) (eCons (eC (.int 4)) (eNil)))) (eCons (eTup (eCons (eC (.int 0)) (eCons (eC (.int 1)) (eNil)))) (eNil))))))) (sRet (eC (.bool false))) (sSkip))
    (sSeq (sSet 9 (eTup (eCons (eC (.int 0)) (eCons (eTup (eCons (eTup (eCons (eC (.int 3)) (eCons (eTup (eCons (eC (.int 0)) (eCons (eC (.int 1)) (eNil)))) (eNil)))) (eCons (eTup (eCons (eC (.int 3)) (eCons (eTup (eCons (eC (.int 1)) (eCons (eC (.int 0)) (eNil)))) (eNil)))) (eNil)))) (eNil)))))
    (sSeq (sSetLcO 5 (eItems (eTup (eCons (eC (.int 0)) (eCons (eC (.int 1)) (eNil))))) [6] (gNm 6) (tYes') (te_law_4))
    (sSeq (sExpr (eApp 5 (eCall m_made_test (eCons (eC (.int 1)) (eCons (eVar 3) (eCons (eC (.int 2)) (eCons (eVar 9) (eCons (eC (.int 1)) (eCons (eC (.int 1)) (eCons (eTup (eCons (eTup (eCons (eC (.int 0)) (eCons (eC (.int 0)) (eNil)))) (eCons (eC .none) (eNil)))) (eNil)))))))))))
    (sRet (eBin fEq (eVar 5) (eLst (eCons (eTup (eCons (eC (.int 1)) (eCons (eC (.int 0)) (eCons (eC (.int 1)) (eCons (eC (.int 0)) (eNil)))))) (eCons (eTup (eCons (eC (.int 0)) (eCons (eC (.int 1)) (eCons (eC (.int 0)) (eCons (eC (.int 1)) (eNil)))))) (eCons (eTup (eCons (eC (.int 0)) (eCons (eC (.int 0)) (eCons (eC (.int 1)) (eCons (eC (.int 1)) (eNil)))))) (eNil)))))))))))))))
theorem tail_ok (ns : List Int) {w1 w2 w3 : W} (u1 : U w1) (u2 : w2 = .un ∨ ∃ h, w2 = .own false h) (u3 : U w3) : ∃ s, tailB [.scr ns, w1, w2, w3, .un, .un, .un, .un, .un, .un] = .rt (.bool true) s := by
  apply isT1_eq
  rcases u1 with rfl | ⟨_, rfl⟩ <;> rcases u2 with rfl | ⟨_, rfl⟩ <;> rcases u3 with rfl | ⟨_, rfl⟩ <;> kernel_rfl
theorem law_true (ns : List Int) (hns : ns.length ≤ 63) : ∃ outs, m_law [.scr ns] = .ok (.bool true) outs := by
  obtain ⟨m, hm, em⟩ : ∃ m : Nat, m ≤ 3 ∧ eBin fMax2 (eC (.int 1)) (eBin fMin2 (eC (.int 3)) (eLenO 0)) [.scr ns, .un, .un, .un, .un, .un, .un, .un, .un, .un] = .ok (.int m) [.scr ns, .un, .un, .un, .un, .un, .un, .un, .un, .un] := by
    refine ⟨max 1 (min 3 ns.length), by omega, ?_⟩
    have : eBin fMax2 (eC (.int 1)) (eBin fMin2 (eC (.int 3)) (eLenO 0)) [.scr ns, .un, .un, .un, .un, .un, .un, .un, .un, .un] = .ok (.int (if (if (ns.length : Int) < 3 then (ns.length : Int) else 3) > 1 then (if (ns.length : Int) < 3 then (ns.length : Int) else 3) else 1)) [.scr ns, .un, .un, .un, .un, .un, .un, .un, .un, .un] := rfl
    rw [this]
    congr 2
    split <;> split <;> omega
  obtain ⟨s', e1, w1, w2, w3, q1, u1, u2, u3⟩ := sLoop_inv (g := gNm 1) (b := fb_law_2) (fun s sl => ∃ w1 w2 w3, sl = [.scr ns, w1, w2, w3, .un, .un, .un, .un, .un, .un] ∧ U w1 ∧ (w2 = .un ∨ ∃ h, w2 = .own false h) ∧ U w3) (rangeD 0 m) 0 [.scr ns, .un, .un, .un, .un, .un, .un, .un, .un, .un] ⟨_, _, _, rfl, .un, .inl rfl, .un⟩ fun s y sl hi ⟨w1, w2, w3, e, u1, u2, u3⟩ => by
    subst e
    obtain ⟨hi1, rfl⟩ := rangeD_get hi
    rw [Int.zero_add]
    obtain ⟨hat, o, e0, x0⟩ := hat_ok ns s (by omega)
    have k1 : sTakeS 2 m_law_fr_hat 0 (eCons (eVar 1) (eNil)) [.scr ns, .d (.int s), w2, w3, .un, .un, .un, .un, .un, .un] = .nx [.scr ns, .d (.int s), .own false hat, w3, .un, .un, .un, .un, .un, .un] := by
      show (match m_law_fr_hat [.scr ns, .d (.int s)] with
        | .ok x _ => if free [.scr ns, .d (.int s), w2, w3, .un, .un, .un, .un, .un, .un] 2 = true then RS.nx [.scr ns, .d (.int s), .own false x, w3, .un, .un, .un, .un, .un, .un] else .stuck
        | _ => .stuck) = _
      rw [e0]
      exact if_pos (by rcases u2 with rfl | ⟨_, rfl⟩ <;> rfl)
    obtain ⟨s2, e2, h2, v3, q2, u3', x2⟩ := sLoop_inv (g := gNm 3) (b := fb_law_1) (fun c sl => ∃ h' v3, sl = [.scr ns, .d (.int s), .own false h', v3, .un, .un, .un, .un, .un, .un] ∧ U v3 ∧ Ht (1000 * c) h') (rangeD 0 4) 0 [.scr ns, .d (.int s), .own false hat, w3, .un, .un, .un, .un, .un, .un] ⟨hat, w3, rfl, u3, x0⟩ fun c y sl hi ⟨h', v3, e, uv, x'⟩ => by
      subst e
      obtain ⟨hi1, rfl⟩ := rangeD_get hi
      obtain ⟨h2, o2, e2, x2⟩ := right_ok x' (by omega)
      obtain ⟨ys, hys⟩ := x'.lst
      have d1 := eCallIO_ok (fn := m_law_right) (i := 2) (args := eNil) (b := false) (sl := [.scr ns, .d (.int s), .own false h', .d (.int (0 + (c : Nat))), .un, .un, .un, .un, .un, .un]) (by rw [hys]; rfl) eNil_ok rfl e2
      have d2 := tNot_ok (tTru_ok d1 rfl)
      exact ⟨_, _, by rcases uv with rfl | ⟨_, rfl⟩ <;> rfl, .inl ((sIf_f d2).trans rfl), h2, _, rfl, .d, by rw [show 1000 * (0 + c + 1) = 1000 * (0 + c) + 1000 by omega]; exact x2⟩
    subst q2
    have k2 := (for_ok (b := fb_law_1) (g := gNm 3) (range1_ok (e := eC (.int 4)) (sl := [.scr ns, .d (.int s), .own false hat, w3, .un, .un, .un, .un, .un, .un]) (n := 4) rfl (by decide))).trans e2
    exact ⟨_, _, by rcases u1 with rfl | ⟨_, rfl⟩ <;> rfl, .inl ((sSeq_nx k1).trans k2), _, _, _, rfl, .d, .inr ⟨_, rfl⟩, u3'⟩
  subst q1
  have k1 := (for_ok (b := fb_law_2) (g := gNm 1) (range1_ok em (by omega))).trans e1
  obtain ⟨s2, k2⟩ := tail_ok ns u1 u2 u3
  exact ⟨_, mkFn_rt (np := 1) (n := 10) (as := [.scr ns]) rfl rfl ((sSeq_nx k1).trans k2)⟩
end k87
end DE
namespace DE
namespace k87
open PySem PySem.Spec PyProof.Rows L2
/-! ### what the top has written -/
theorem txt_mk {K : PySem.W.Frag} {h : Heap} {mg : Str → Option Value} (X : K.In h) (G : h.Ns mainGlobals mg)
    {f0 : Addr} {od0 an0 : Option Addr} {sl0 : Array (Option Value)} {oc0 kV0 dc0 pm0 cd0 ct0 : Value}
    {f1 : Addr} {od1 an1 : Option Addr} {sl1 : Array (Option Value)} {oc1 kV1 dc1 pm1 cd1 ct1 : Value}
    {f2 : Addr} {od2 an2 : Option Addr} {sl2 : Array (Option Value)} {oc2 kV2 dc2 pm2 cd2 ct2 : Value}
    {f3 : Addr} {od3 an3 : Option Addr} {sl3 : Array (Option Value)} {oc3 kV3 dc3 pm3 cd3 ct3 : Value}
    {f4 : Addr} {od4 an4 : Option Addr} {sl4 : Array (Option Value)} {oc4 kV4 dc4 pm4 cd4 ct4 : Value}
    {f5 : Addr} {od5 an5 : Option Addr} {sl5 : Array (Option Value)} {oc5 kV5 dc5 pm5 cd5 ct5 : Value}
    {f6 : Addr} {od6 an6 : Option Addr} {sl6 : Array (Option Value)} {oc6 kV6 dc6 pm6 cd6 ct6 : Value}
    {f7 : Addr} {od7 an7 : Option Addr} {sl7 : Array (Option Value)} {oc7 kV7 dc7 pm7 cd7 ct7 : Value}
    {f8 : Addr} {od8 an8 : Option Addr} {sl8 : Array (Option Value)} {oc8 kV8 dc8 pm8 cd8 ct8 : Value}
    {f9 : Addr} {od9 an9 : Option Addr} {sl9 : Array (Option Value)} {oc9 kV9 dc9 pm9 cd9 ct9 : Value}
    {f10 : Addr} {od10 an10 : Option Addr} {sl10 : Array (Option Value)} {oc10 kV10 dc10 pm10 cd10 ct10 : Value}
    {f11 : Addr} {od11 an11 : Option Addr} {sl11 : Array (Option Value)} {oc11 kV11 dc11 pm11 cd11 ct11 : Value}
    {f12 : Addr} {od12 an12 : Option Addr} {sl12 : Array (Option Value)} {oc12 kV12 dc12 pm12 cd12 ct12 : Value}
    {f13 : Addr} {od13 an13 : Option Addr} {sl13 : Array (Option Value)} {oc13 kV13 dc13 pm13 cd13 ct13 : Value}
    {f14 : Addr} {od14 an14 : Option Addr} {sl14 : Array (Option Value)} {oc14 kV14 dc14 pm14 cd14 ct14 : Value}
    {f15 : Addr} {od15 an15 : Option Addr} {sl15 : Array (Option Value)} {oc15 kV15 dc15 pm15 cd15 ct15 : Value}
    {f16 : Addr} {od16 an16 : Option Addr} {sl16 : Array (Option Value)} {oc16 kV16 dc16 pm16 cd16 ct16 : Value}
    {f17 : Addr} {od17 an17 : Option Addr} {sl17 : Array (Option Value)} {oc17 kV17 dc17 pm17 cd17 ct17 : Value}
    {f18 : Addr} {od18 an18 : Option Addr} {sl18 : Array (Option Value)} {oc18 kV18 dc18 pm18 cd18 ct18 : Value}
    {f19 : Addr} {od19 an19 : Option Addr} {sl19 : Array (Option Value)} {oc19 kV19 dc19 pm19 cd19 ct19 : Value}
    {f20 : Addr} {od20 an20 : Option Addr} {sl20 : Array (Option Value)} {oc20 kV20 dc20 pm20 cd20 ct20 : Value}
    {f21 : Addr} {od21 an21 : Option Addr} {sl21 : Array (Option Value)} {oc21 kV21 dc21 pm21 cd21 ct21 : Value}
    {f22 : Addr} {od22 an22 : Option Addr} {sl22 : Array (Option Value)} {oc22 kV22 dc22 pm22 cd22 ct22 : Value}
    {f23 : Addr} {od23 an23 : Option Addr} {sl23 : Array (Option Value)} {oc23 kV23 dc23 pm23 cd23 ct23 : Value}
    {f24 : Addr} {od24 an24 : Option Addr} {sl24 : Array (Option Value)} {oc24 kV24 dc24 pm24 cd24 ct24 : Value}
    {f25 : Addr} {od25 an25 : Option Addr} {sl25 : Array (Option Value)} {oc25 kV25 dc25 pm25 cd25 ct25 : Value}
    {f26 : Addr} {od26 an26 : Option Addr} {sl26 : Array (Option Value)} {oc26 kV26 dc26 pm26 cd26 ct26 : Value}
    {f27 : Addr} {od27 an27 : Option Addr} {sl27 : Array (Option Value)} {oc27 kV27 dc27 pm27 cd27 ct27 : Value}
    {f28 : Addr} {od28 an28 : Option Addr} {sl28 : Array (Option Value)} {oc28 kV28 dc28 pm28 cd28 ct28 : Value}
    {f29 : Addr} {od29 an29 : Option Addr} {sl29 : Array (Option Value)} {oc29 kV29 dc29 pm29 cd29 ct29 : Value}
    {f30 : Addr} {od30 an30 : Option Addr} {sl30 : Array (Option Value)} {oc30 kV30 dc30 pm30 cd30 ct30 : Value}
    {f31 : Addr} {od31 an31 : Option Addr} {sl31 : Array (Option Value)} {oc31 kV31 dc31 pm31 cd31 ct31 : Value}
    {f32 : Addr} {od32 an32 : Option Addr} {sl32 : Array (Option Value)} {oc32 kV32 dc32 pm32 cd32 ct32 : Value}
    {f33 : Addr} {od33 an33 : Option Addr} {sl33 : Array (Option Value)} {oc33 kV33 dc33 pm33 cd33 ct33 : Value}
    {f34 : Addr} {od34 an34 : Option Addr} {sl34 : Array (Option Value)} {oc34 kV34 dc34 pm34 cd34 ct34 : Value}
    {f35 : Addr} {od35 an35 : Option Addr} {sl35 : Array (Option Value)} {oc35 kV35 dc35 pm35 cd35 ct35 : Value}
    {f36 : Addr} {od36 an36 : Option Addr} {sl36 : Array (Option Value)} {oc36 kV36 dc36 pm36 cd36 ct36 : Value}
    {f37 : Addr} {od37 an37 : Option Addr} {sl37 : Array (Option Value)} {oc37 kV37 dc37 pm37 cd37 ct37 : Value}
    {t_MOST_BITS : Tok}
    {t_MOST_LEVELS : Tok}
    {t_MOST_QUESTIONS : Tok}
    {t_PAIR : Tok}
    (a0 : PySem.W.nsIn K mainGlobals "_law_fr_hat" = some (some (.ref f0))) (l0 : K.lookup f0 = some ⟨oc0, od0, .func (PySem.W.fnOf "_law_fr_hat" "_law_fr_hat" (defArgs s__law_fr_hat) (defBody s__law_fr_hat) (defScope s__law_fr_hat) .none kV0 dc0 pm0 an0 cd0 ct0), sl0⟩) (c0 : PySem.W.codeIn K cd0 "_law_fr_hat" = true) (k0 : PySem.W.keepIn K (.ref f0) = true)
    (a1 : PySem.W.nsIn K mainGlobals "is_whole" = some (some (.ref f1))) (l1 : K.lookup f1 = some ⟨oc1, od1, .func (PySem.W.fnOf "is_whole" "is_whole" (defArgs s_is_whole) (defBody s_is_whole) (defScope s_is_whole) .none kV1 dc1 pm1 an1 cd1 ct1), sl1⟩) (c1 : PySem.W.codeIn K cd1 "is_whole" = true) (k1 : PySem.W.keepIn K (.ref f1) = true)
    (a2 : PySem.W.nsIn K mainGlobals "is_within" = some (some (.ref f2))) (l2 : K.lookup f2 = some ⟨oc2, od2, .func (PySem.W.fnOf "is_within" "is_within" (defArgs s_is_within) (defBody s_is_within) (defScope s_is_within) .none kV2 dc2 pm2 an2 cd2 ct2), sl2⟩) (c2 : PySem.W.codeIn K cd2 "is_within" = true) (k2 : PySem.W.keepIn K (.ref f2) = true)
    (a3 : PySem.W.nsIn K mainGlobals "require_within" = some (some (.ref f3))) (l3 : K.lookup f3 = some ⟨oc3, od3, .func (PySem.W.fnOf "require_within" "require_within" (defArgs s_require_within) (defBody s_require_within) (defScope s_require_within) .none kV3 dc3 pm3 an3 cd3 ct3), sl3⟩) (c3 : PySem.W.codeIn K cd3 "require_within" = true) (k3 : PySem.W.keepIn K (.ref f3) = true)
    (a4 : PySem.W.nsIn K mainGlobals "is_pair_of_words" = some (some (.ref f4))) (l4 : K.lookup f4 = some ⟨oc4, od4, .func (PySem.W.fnOf "is_pair_of_words" "is_pair_of_words" (defArgs s_is_pair_of_words) (defBody s_is_pair_of_words) (defScope s_is_pair_of_words) .none kV4 dc4 pm4 an4 cd4 ct4), sl4⟩) (c4 : PySem.W.codeIn K cd4 "is_pair_of_words" = true) (k4 : PySem.W.keepIn K (.ref f4) = true)
    (a5 : PySem.W.nsIn K mainGlobals "require_doubling" = some (some (.ref f5))) (l5 : K.lookup f5 = some ⟨oc5, od5, .func (PySem.W.fnOf "require_doubling" "require_doubling" (defArgs s_require_doubling) (defBody s_require_doubling) (defScope s_require_doubling) .none kV5 dc5 pm5 an5 cd5 ct5), sl5⟩) (c5 : PySem.W.codeIn K cd5 "require_doubling" = true) (k5 : PySem.W.keepIn K (.ref f5) = true)
    (a6 : PySem.W.nsIn K mainGlobals "is_bit" = some (some (.ref f6))) (l6 : K.lookup f6 = some ⟨oc6, od6, .func (PySem.W.fnOf "is_bit" "is_bit" (defArgs s_is_bit) (defBody s_is_bit) (defScope s_is_bit) .none kV6 dc6 pm6 an6 cd6 ct6), sl6⟩) (c6 : PySem.W.codeIn K cd6 "is_bit" = true) (k6 : PySem.W.keepIn K (.ref f6) = true)
    (a7 : PySem.W.nsIn K mainGlobals "is_asker_in" = some (some (.ref f7))) (l7 : K.lookup f7 = some ⟨oc7, od7, .func (PySem.W.fnOf "is_asker_in" "is_asker_in" (defArgs s_is_asker_in) (defBody s_is_asker_in) (defScope s_is_asker_in) .none kV7 dc7 pm7 an7 cd7 ct7), sl7⟩) (c7 : PySem.W.codeIn K cd7 "is_asker_in" = true) (k7 : PySem.W.keepIn K (.ref f7) = true)
    (a8 : PySem.W.nsIn K mainGlobals "require_asker" = some (some (.ref f8))) (l8 : K.lookup f8 = some ⟨oc8, od8, .func (PySem.W.fnOf "require_asker" "require_asker" (defArgs s_require_asker) (defBody s_require_asker) (defScope s_require_asker) .none kV8 dc8 pm8 an8 cd8 ct8), sl8⟩) (c8 : PySem.W.codeIn K cd8 "require_asker" = true) (k8 : PySem.W.keepIn K (.ref f8) = true)
    (a9 : PySem.W.nsIn K mainGlobals "require_all" = some (some (.ref f9))) (l9 : K.lookup f9 = some ⟨oc9, od9, .func (PySem.W.fnOf "require_all" "require_all" (defArgs s_require_all) (defBody s_require_all) (defScope s_require_all) .none kV9 dc9 pm9 an9 cd9 ct9), sl9⟩) (c9 : PySem.W.codeIn K cd9 "require_all" = true) (k9 : PySem.W.keepIn K (.ref f9) = true)
    (a10 : PySem.W.nsIn K mainGlobals "questions_in" = some (some (.ref f10))) (l10 : K.lookup f10 = some ⟨oc10, od10, .func (PySem.W.fnOf "questions_in" "questions_in" (defArgs s_questions_in) (defBody s_questions_in) (defScope s_questions_in) .none kV10 dc10 pm10 an10 cd10 ct10), sl10⟩) (c10 : PySem.W.codeIn K cd10 "questions_in" = true) (k10 : PySem.W.keepIn K (.ref f10) = true)
    (a11 : PySem.W.nsIn K mainGlobals "require_indices" = some (some (.ref f11))) (l11 : K.lookup f11 = some ⟨oc11, od11, .func (PySem.W.fnOf "require_indices" "require_indices" (defArgs s_require_indices) (defBody s_require_indices) (defScope s_require_indices) .none kV11 dc11 pm11 an11 cd11 ct11), sl11⟩) (c11 : PySem.W.codeIn K cd11 "require_indices" = true) (k11 : PySem.W.keepIn K (.ref f11) = true)
    (a12 : PySem.W.nsIn K mainGlobals "below_in" = some (some (.ref f12))) (l12 : K.lookup f12 = some ⟨oc12, od12, .func (PySem.W.fnOf "below_in" "below_in" (defArgs s_below_in) (defBody s_below_in) (defScope s_below_in) .none kV12 dc12 pm12 an12 cd12 ct12), sl12⟩) (c12 : PySem.W.codeIn K cd12 "below_in" = true) (k12 : PySem.W.keepIn K (.ref f12) = true)
    (a13 : PySem.W.nsIn K mainGlobals "led_down" = some (some (.ref f13))) (l13 : K.lookup f13 = some ⟨oc13, od13, .func (PySem.W.fnOf "led_down" "led_down" (defArgs s_led_down) (defBody s_led_down) (defScope s_led_down) .none kV13 dc13 pm13 an13 cd13 ct13), sl13⟩) (c13 : PySem.W.codeIn K cd13 "led_down" = true) (k13 : PySem.W.keepIn K (.ref f13) = true)
    (a14 : PySem.W.nsIn K mainGlobals "end_below" = some (some (.ref f14))) (l14 : K.lookup f14 = some ⟨oc14, od14, .func (PySem.W.fnOf "end_below" "end_below" (defArgs s_end_below) (defBody s_end_below) (defScope s_end_below) .none kV14 dc14 pm14 an14 cd14 ct14), sl14⟩) (c14 : PySem.W.codeIn K cd14 "end_below" = true) (k14 : PySem.W.keepIn K (.ref f14) = true)
    (a15 : PySem.W.nsIn K mainGlobals "test_in" = some (some (.ref f15))) (l15 : K.lookup f15 = some ⟨oc15, od15, .func (PySem.W.fnOf "test_in" "test_in" (defArgs s_test_in) (defBody s_test_in) (defScope s_test_in) .none kV15 dc15 pm15 an15 cd15 ct15), sl15⟩) (c15 : PySem.W.codeIn K cd15 "test_in" = true) (k15 : PySem.W.keepIn K (.ref f15) = true)
    (a16 : PySem.W.nsIn K mainGlobals "are_others" = some (some (.ref f16))) (l16 : K.lookup f16 = some ⟨oc16, od16, .func (PySem.W.fnOf "are_others" "are_others" (defArgs s_are_others) (defBody s_are_others) (defScope s_are_others) .none kV16 dc16 pm16 an16 cd16 ct16), sl16⟩) (c16 : PySem.W.codeIn K cd16 "are_others" = true) (k16 : PySem.W.keepIn K (.ref f16) = true)
    (a17 : PySem.W.nsIn K mainGlobals "made_test" = some (some (.ref f17))) (l17 : K.lookup f17 = some ⟨oc17, od17, .func (PySem.W.fnOf "made_test" "made_test" (defArgs s_made_test) (defBody s_made_test) (defScope s_made_test) .none kV17 dc17 pm17 an17 cd17 ct17), sl17⟩) (c17 : PySem.W.codeIn K cd17 "made_test" = true) (k17 : PySem.W.keepIn K (.ref f17) = true)
    (a18 : PySem.W.nsIn K mainGlobals "fraction_in" = some (some (.ref f18))) (l18 : K.lookup f18 = some ⟨oc18, od18, .func (PySem.W.fnOf "fraction_in" "fraction_in" (defArgs s_fraction_in) (defBody s_fraction_in) (defScope s_fraction_in) .none kV18 dc18 pm18 an18 cd18 ct18), sl18⟩) (c18 : PySem.W.codeIn K cd18 "fraction_in" = true) (k18 : PySem.W.keepIn K (.ref f18) = true)
    (a19 : PySem.W.nsIn K mainGlobals "are_bits" = some (some (.ref f19))) (l19 : K.lookup f19 = some ⟨oc19, od19, .func (PySem.W.fnOf "are_bits" "are_bits" (defArgs s_are_bits) (defBody s_are_bits) (defScope s_are_bits) .none kV19 dc19 pm19 an19 cd19 ct19), sl19⟩) (c19 : PySem.W.codeIn K cd19 "are_bits" = true) (k19 : PySem.W.keepIn K (.ref f19) = true)
    (a20 : PySem.W.nsIn K mainGlobals "pair_edge_tops" = some (some (.ref f20))) (l20 : K.lookup f20 = some ⟨oc20, od20, .func (PySem.W.fnOf "pair_edge_tops" "pair_edge_tops" (defArgs s_pair_edge_tops) (defBody s_pair_edge_tops) (defScope s_pair_edge_tops) .none kV20 dc20 pm20 an20 cd20 ct20), sl20⟩) (c20 : PySem.W.codeIn K cd20 "pair_edge_tops" = true) (k20 : PySem.W.keepIn K (.ref f20) = true)
    (a21 : PySem.W.nsIn K mainGlobals "pair_edge" = some (some (.ref f21))) (l21 : K.lookup f21 = some ⟨oc21, od21, .func (PySem.W.fnOf "pair_edge" "pair_edge" (defArgs s_pair_edge) (defBody s_pair_edge) (defScope s_pair_edge) .none kV21 dc21 pm21 an21 cd21 ct21), sl21⟩) (c21 : PySem.W.codeIn K cd21 "pair_edge" = true) (k21 : PySem.W.keepIn K (.ref f21) = true)
    (a22 : PySem.W.nsIn K mainGlobals "_law_fr_up" = some (some (.ref f22))) (l22 : K.lookup f22 = some ⟨oc22, od22, .func (PySem.W.fnOf "_law_fr_up" "_law_fr_up" (defArgs s__law_fr_up) (defBody s__law_fr_up) (defScope s__law_fr_up) .none kV22 dc22 pm22 an22 cd22 ct22), sl22⟩) (c22 : PySem.W.codeIn K cd22 "_law_fr_up" = true) (k22 : PySem.W.keepIn K (.ref f22) = true)
    (a23 : PySem.W.nsIn K mainGlobals "_law_fr_of" = some (some (.ref f23))) (l23 : K.lookup f23 = some ⟨oc23, od23, .func (PySem.W.fnOf "_law_fr_of" "_law_fr_of" (defArgs s__law_fr_of) (defBody s__law_fr_of) (defScope s__law_fr_of) .none kV23 dc23 pm23 an23 cd23 ct23), sl23⟩) (c23 : PySem.W.codeIn K cd23 "_law_fr_of" = true) (k23 : PySem.W.keepIn K (.ref f23) = true)
    (a24 : PySem.W.nsIn K mainGlobals "_law_tr_doubling" = some (some (.ref f24))) (l24 : K.lookup f24 = some ⟨oc24, od24, .func (PySem.W.fnOf "_law_tr_doubling" "_law_tr_doubling" (defArgs s__law_tr_doubling) (defBody s__law_tr_doubling) (defScope s__law_tr_doubling) .none kV24 dc24 pm24 an24 cd24 ct24), sl24⟩) (c24 : PySem.W.codeIn K cd24 "_law_tr_doubling" = true) (k24 : PySem.W.keepIn K (.ref f24) = true)
    (a25 : PySem.W.nsIn K mainGlobals "_law_tr_asker" = some (some (.ref f25))) (l25 : K.lookup f25 = some ⟨oc25, od25, .func (PySem.W.fnOf "_law_tr_asker" "_law_tr_asker" (defArgs s__law_tr_asker) (defBody s__law_tr_asker) (defScope s__law_tr_asker) .none kV25 dc25 pm25 an25 cd25 ct25), sl25⟩) (c25 : PySem.W.codeIn K cd25 "_law_tr_asker" = true) (k25 : PySem.W.keepIn K (.ref f25) = true)
    (a26 : PySem.W.nsIn K mainGlobals "_law_fr_bits" = some (some (.ref f26))) (l26 : K.lookup f26 = some ⟨oc26, od26, .func (PySem.W.fnOf "_law_fr_bits" "_law_fr_bits" (defArgs s__law_fr_bits) (defBody s__law_fr_bits) (defScope s__law_fr_bits) .none kV26 dc26 pm26 an26 cd26 ct26), sl26⟩) (c26 : PySem.W.codeIn K cd26 "_law_fr_bits" = true) (k26 : PySem.W.keepIn K (.ref f26) = true)
    (a27 : PySem.W.nsIn K mainGlobals "questions" = some (some (.ref f27))) (l27 : K.lookup f27 = some ⟨oc27, od27, .func (PySem.W.fnOf "questions" "questions" (defArgs s_questions) (defBody s_questions) (defScope s_questions) .none kV27 dc27 pm27 an27 cd27 ct27), sl27⟩) (c27 : PySem.W.codeIn K cd27 "questions" = true) (k27 : PySem.W.keepIn K (.ref f27) = true)
    (a28 : PySem.W.nsIn K mainGlobals "_law_fr_shared" = some (some (.ref f28))) (l28 : K.lookup f28 = some ⟨oc28, od28, .func (PySem.W.fnOf "_law_fr_shared" "_law_fr_shared" (defArgs s__law_fr_shared) (defBody s__law_fr_shared) (defScope s__law_fr_shared) .none kV28 dc28 pm28 an28 cd28 ct28), sl28⟩) (c28 : PySem.W.codeIn K cd28 "_law_fr_shared" = true) (k28 : PySem.W.keepIn K (.ref f28) = true)
    (a29 : PySem.W.nsIn K mainGlobals "_law_fr_made" = some (some (.ref f29))) (l29 : K.lookup f29 = some ⟨oc29, od29, .func (PySem.W.fnOf "_law_fr_made" "_law_fr_made" (defArgs s__law_fr_made) (defBody s__law_fr_made) (defScope s__law_fr_made) .none kV29 dc29 pm29 an29 cd29 ct29), sl29⟩) (c29 : PySem.W.codeIn K cd29 "_law_fr_made" = true) (k29 : PySem.W.keepIn K (.ref f29) = true)
    (a30 : PySem.W.nsIn K mainGlobals "_law_tr_edge" = some (some (.ref f30))) (l30 : K.lookup f30 = some ⟨oc30, od30, .func (PySem.W.fnOf "_law_tr_edge" "_law_tr_edge" (defArgs s__law_tr_edge) (defBody s__law_tr_edge) (defScope s__law_tr_edge) .none kV30 dc30 pm30 an30 cd30 ct30), sl30⟩) (c30 : PySem.W.codeIn K cd30 "_law_tr_edge" = true) (k30 : PySem.W.keepIn K (.ref f30) = true)
    (a31 : PySem.W.nsIn K mainGlobals "_law_tr_others" = some (some (.ref f31))) (l31 : K.lookup f31 = some ⟨oc31, od31, .func (PySem.W.fnOf "_law_tr_others" "_law_tr_others" (defArgs s__law_tr_others) (defBody s__law_tr_others) (defScope s__law_tr_others) .none kV31 dc31 pm31 an31 cd31 ct31), sl31⟩) (c31 : PySem.W.codeIn K cd31 "_law_tr_others" = true) (k31 : PySem.W.keepIn K (.ref f31) = true)
    (a32 : PySem.W.nsIn K mainGlobals "_law_tr_below" = some (some (.ref f32))) (l32 : K.lookup f32 = some ⟨oc32, od32, .func (PySem.W.fnOf "_law_tr_below" "_law_tr_below" (defArgs s__law_tr_below) (defBody s__law_tr_below) (defScope s__law_tr_below) .none kV32 dc32 pm32 an32 cd32 ct32), sl32⟩) (c32 : PySem.W.codeIn K cd32 "_law_tr_below" = true) (k32 : PySem.W.keepIn K (.ref f32) = true)
    (a33 : PySem.W.nsIn K mainGlobals "_law_tr_leaf" = some (some (.ref f33))) (l33 : K.lookup f33 = some ⟨oc33, od33, .func (PySem.W.fnOf "_law_tr_leaf" "_law_tr_leaf" (defArgs s__law_tr_leaf) (defBody s__law_tr_leaf) (defScope s__law_tr_leaf) .none kV33 dc33 pm33 an33 cd33 ct33), sl33⟩) (c33 : PySem.W.codeIn K cd33 "_law_tr_leaf" = true) (k33 : PySem.W.keepIn K (.ref f33) = true)
    (a34 : PySem.W.nsIn K mainGlobals "_law_tr_met" = some (some (.ref f34))) (l34 : K.lookup f34 = some ⟨oc34, od34, .func (PySem.W.fnOf "_law_tr_met" "_law_tr_met" (defArgs s__law_tr_met) (defBody s__law_tr_met) (defScope s__law_tr_met) .none kV34 dc34 pm34 an34 cd34 ct34), sl34⟩) (c34 : PySem.W.codeIn K cd34 "_law_tr_met" = true) (k34 : PySem.W.keepIn K (.ref f34) = true)
    (a35 : PySem.W.nsIn K mainGlobals "_law_tr_test" = some (some (.ref f35))) (l35 : K.lookup f35 = some ⟨oc35, od35, .func (PySem.W.fnOf "_law_tr_test" "_law_tr_test" (defArgs s__law_tr_test) (defBody s__law_tr_test) (defScope s__law_tr_test) .none kV35 dc35 pm35 an35 cd35 ct35), sl35⟩) (c35 : PySem.W.codeIn K cd35 "_law_tr_test" = true) (k35 : PySem.W.keepIn K (.ref f35) = true)
    (a36 : PySem.W.nsIn K mainGlobals "_law_right" = some (some (.ref f36))) (l36 : K.lookup f36 = some ⟨oc36, od36, .func (PySem.W.fnOf "_law_right" "_law_right" (defArgs s__law_right) (defBody s__law_right) (defScope s__law_right) .none kV36 dc36 pm36 an36 cd36 ct36), sl36⟩) (c36 : PySem.W.codeIn K cd36 "_law_right" = true) (k36 : PySem.W.keepIn K (.ref f36) = true)
    (a37 : PySem.W.nsIn K mainGlobals "law" = some (some (.ref f37))) (l37 : K.lookup f37 = some ⟨oc37, od37, .func (PySem.W.fnOf "law" "law" (defArgs s_law) (defBody s_law) (defScope s_law) .none kV37 dc37 pm37 an37 cd37 ct37), sl37⟩) (c37 : PySem.W.codeIn K cd37 "law" = true) (k37 : PySem.W.keepIn K (.ref f37) = true)
    (z_abs : PySem.W.nsIn K mainGlobals "abs" = some none)
    (z_all : PySem.W.nsIn K mainGlobals "all" = some none)
    (z_bool : PySem.W.nsIn K mainGlobals "bool" = some none)
    (z_int : PySem.W.nsIn K mainGlobals "int" = some none)
    (z_isinstance : PySem.W.nsIn K mainGlobals "isinstance" = some none)
    (z_len : PySem.W.nsIn K mainGlobals "len" = some none)
    (z_max : PySem.W.nsIn K mainGlobals "max" = some none)
    (z_min : PySem.W.nsIn K mainGlobals "min" = some none)
    (z_range : PySem.W.nsIn K mainGlobals "range" = some none)
    (z_set : PySem.W.nsIn K mainGlobals "set" = some none)
    (z_sum : PySem.W.nsIn K mainGlobals "sum" = some none)
    (z_tuple : PySem.W.nsIn K mainGlobals "tuple" = some none)
    (i_gcd : PySem.W.nsIn K mainGlobals "gcd" = some (some (.builtin "math.gcd")))
    (k_MOST_BITS : PySem.W.nsIn K mainGlobals "MOST_BITS" = some (some (.int 3 t_MOST_BITS)))
    (k_MOST_LEVELS : PySem.W.nsIn K mainGlobals "MOST_LEVELS" = some (some (.int 4 t_MOST_LEVELS)))
    (k_MOST_QUESTIONS : PySem.W.nsIn K mainGlobals "MOST_QUESTIONS" = some (some (.int 3 t_MOST_QUESTIONS)))
    (k_PAIR : PySem.W.nsIn K mainGlobals "PAIR" = some (some (.int 2 t_PAIR))) :
    Nonempty (Txt K mg) := ⟨{
    a__law_fr_hat := f0
    d__law_fr_hat := PySem.W.fnOf "_law_fr_hat" "_law_fr_hat" (defArgs s__law_fr_hat) (defBody s__law_fr_hat) (defScope s__law_fr_hat) .none kV0 dc0 pm0 an0 cd0 ct0
    F__law_fr_hat := fun_mk (st := s__law_fr_hat) l0 c0 k0
    g__law_fr_hat := PySem.W.mg_of X G a0
    b__law_fr_hat := (fun_mk (st := s__law_fr_hat) l0 c0 k0).binds (ps := ["script", "spot"]) fun _ _ _ _ _ _ us hl => match us, hl with | [_, _], _ => rfl
    a_is_whole := f1
    d_is_whole := PySem.W.fnOf "is_whole" "is_whole" (defArgs s_is_whole) (defBody s_is_whole) (defScope s_is_whole) .none kV1 dc1 pm1 an1 cd1 ct1
    F_is_whole := fun_mk (st := s_is_whole) l1 c1 k1
    g_is_whole := PySem.W.mg_of X G a1
    b_is_whole := (fun_mk (st := s_is_whole) l1 c1 k1).binds (ps := ["value"]) fun _ _ _ _ _ _ us hl => match us, hl with | [_], _ => rfl
    a_is_within := f2
    d_is_within := PySem.W.fnOf "is_within" "is_within" (defArgs s_is_within) (defBody s_is_within) (defScope s_is_within) .none kV2 dc2 pm2 an2 cd2 ct2
    F_is_within := fun_mk (st := s_is_within) l2 c2 k2
    g_is_within := PySem.W.mg_of X G a2
    b_is_within := (fun_mk (st := s_is_within) l2 c2 k2).binds (ps := ["value", "least", "most"]) fun _ _ _ _ _ _ us hl => match us, hl with | [_, _, _], _ => rfl
    a_require_within := f3
    d_require_within := PySem.W.fnOf "require_within" "require_within" (defArgs s_require_within) (defBody s_require_within) (defScope s_require_within) .none kV3 dc3 pm3 an3 cd3 ct3
    F_require_within := fun_mk (st := s_require_within) l3 c3 k3
    g_require_within := PySem.W.mg_of X G a3
    b_require_within := (fun_mk (st := s_require_within) l3 c3 k3).binds (ps := ["value", "least", "most"]) fun _ _ _ _ _ _ us hl => match us, hl with | [_, _, _], _ => rfl
    a_is_pair_of_words := f4
    d_is_pair_of_words := PySem.W.fnOf "is_pair_of_words" "is_pair_of_words" (defArgs s_is_pair_of_words) (defBody s_is_pair_of_words) (defScope s_is_pair_of_words) .none kV4 dc4 pm4 an4 cd4 ct4
    F_is_pair_of_words := fun_mk (st := s_is_pair_of_words) l4 c4 k4
    g_is_pair_of_words := PySem.W.mg_of X G a4
    b_is_pair_of_words := (fun_mk (st := s_is_pair_of_words) l4 c4 k4).binds (ps := ["n", "value"]) fun _ _ _ _ _ _ us hl => match us, hl with | [_, _], _ => rfl
    a_require_doubling := f5
    d_require_doubling := PySem.W.fnOf "require_doubling" "require_doubling" (defArgs s_require_doubling) (defBody s_require_doubling) (defScope s_require_doubling) .none kV5 dc5 pm5 an5 cd5 ct5
    F_require_doubling := fun_mk (st := s_require_doubling) l5 c5 k5
    g_require_doubling := PySem.W.mg_of X G a5
    b_require_doubling := (fun_mk (st := s_require_doubling) l5 c5 k5).binds (ps := ["n", "doubling"]) fun _ _ _ _ _ _ us hl => match us, hl with | [_, _], _ => rfl
    a_is_bit := f6
    d_is_bit := PySem.W.fnOf "is_bit" "is_bit" (defArgs s_is_bit) (defBody s_is_bit) (defScope s_is_bit) .none kV6 dc6 pm6 an6 cd6 ct6
    F_is_bit := fun_mk (st := s_is_bit) l6 c6 k6
    g_is_bit := PySem.W.mg_of X G a6
    b_is_bit := (fun_mk (st := s_is_bit) l6 c6 k6).binds (ps := ["value"]) fun _ _ _ _ _ _ us hl => match us, hl with | [_], _ => rfl
    a_is_asker_in := f7
    d_is_asker_in := PySem.W.fnOf "is_asker_in" "is_asker_in" (defArgs s_is_asker_in) (defBody s_is_asker_in) (defScope s_is_asker_in) .none kV7 dc7 pm7 an7 cd7 ct7
    F_is_asker_in := fun_mk (st := s_is_asker_in) l7 c7 k7
    g_is_asker_in := PySem.W.mg_of X G a7
    b_is_asker_in := (fun_mk (st := s_is_asker_in) l7 c7 k7).binds (ps := ["n", "t", "value", "left"]) fun _ _ _ _ _ _ us hl => match us, hl with | [_, _, _, _], _ => rfl
    a_require_asker := f8
    d_require_asker := PySem.W.fnOf "require_asker" "require_asker" (defArgs s_require_asker) (defBody s_require_asker) (defScope s_require_asker) .none kV8 dc8 pm8 an8 cd8 ct8
    F_require_asker := fun_mk (st := s_require_asker) l8 c8 k8
    g_require_asker := PySem.W.mg_of X G a8
    b_require_asker := (fun_mk (st := s_require_asker) l8 c8 k8).binds (ps := ["n", "t", "asker"]) fun _ _ _ _ _ _ us hl => match us, hl with | [_, _, _], _ => rfl
    a_require_all := f9
    d_require_all := PySem.W.fnOf "require_all" "require_all" (defArgs s_require_all) (defBody s_require_all) (defScope s_require_all) .none kV9 dc9 pm9 an9 cd9 ct9
    F_require_all := fun_mk (st := s_require_all) l9 c9 k9
    g_require_all := PySem.W.mg_of X G a9
    b_require_all := (fun_mk (st := s_require_all) l9 c9 k9).binds (ps := ["n", "doubling", "t", "asker"]) fun _ _ _ _ _ _ us hl => match us, hl with | [_, _, _, _], _ => rfl
    a_questions_in := f10
    d_questions_in := PySem.W.fnOf "questions_in" "questions_in" (defArgs s_questions_in) (defBody s_questions_in) (defScope s_questions_in) .none kV10 dc10 pm10 an10 cd10 ct10
    F_questions_in := fun_mk (st := s_questions_in) l10 c10 k10
    g_questions_in := PySem.W.mg_of X G a10
    b_questions_in := (fun_mk (st := s_questions_in) l10 c10 k10).binds (ps := ["asker"]) fun _ _ _ _ _ _ us hl => match us, hl with | [_], _ => rfl
    a_require_indices := f11
    d_require_indices := PySem.W.fnOf "require_indices" "require_indices" (defArgs s_require_indices) (defBody s_require_indices) (defScope s_require_indices) .none kV11 dc11 pm11 an11 cd11 ct11
    F_require_indices := fun_mk (st := s_require_indices) l11 c11 k11
    g_require_indices := PySem.W.mg_of X G a11
    b_require_indices := (fun_mk (st := s_require_indices) l11 c11 k11).binds (ps := ["t", "asker", "i", "j"]) fun _ _ _ _ _ _ us hl => match us, hl with | [_, _, _, _], _ => rfl
    a_below_in := f12
    d_below_in := PySem.W.fnOf "below_in" "below_in" (defArgs s_below_in) (defBody s_below_in) (defScope s_below_in) .none kV12 dc12 pm12 an12 cd12 ct12
    F_below_in := fun_mk (st := s_below_in) l12 c12 k12
    g_below_in := PySem.W.mg_of X G a12
    b_below_in := (fun_mk (st := s_below_in) l12 c12 k12).binds (ps := ["doubling", "hybrid", "tested", "index"]) fun _ _ _ _ _ _ us hl => match us, hl with | [_, _, _, _], _ => rfl
    a_led_down := f13
    d_led_down := PySem.W.fnOf "led_down" "led_down" (defArgs s_led_down) (defBody s_led_down) (defScope s_led_down) .none kV13 dc13 pm13 an13 cd13 ct13
    F_led_down := fun_mk (st := s_led_down) l13 c13 k13
    g_led_down := PySem.W.mg_of X G a13
    b_led_down := (fun_mk (st := s_led_down) l13 c13 k13).binds (ps := ["doubling", "word", "x", "begin", "t"]) fun _ _ _ _ _ _ us hl => match us, hl with | [_, _, _, _, _], _ => rfl
    a_end_below := f14
    d_end_below := PySem.W.fnOf "end_below" "end_below" (defArgs s_end_below) (defBody s_end_below) (defScope s_end_below) .none kV14 dc14 pm14 an14 cd14 ct14
    F_end_below := fun_mk (st := s_end_below) l14 c14 k14
    g_end_below := PySem.W.mg_of X G a14
    b_end_below := (fun_mk (st := s_end_below) l14 c14 k14).binds (ps := ["doubling", "t", "asker", "hybrid", "tested"]) fun _ _ _ _ _ _ us hl => match us, hl with | [_, _, _, _, _], _ => rfl
    a_test_in := f15
    d_test_in := PySem.W.fnOf "test_in" "test_in" (defArgs s_test_in) (defBody s_test_in) (defScope s_test_in) .none kV15 dc15 pm15 an15 cd15 ct15
    F_test_in := fun_mk (st := s_test_in) l15 c15 k15
    g_test_in := PySem.W.mg_of X G a15
    b_test_in := (fun_mk (st := s_test_in) l15 c15 k15).binds (ps := ["n", "doubling", "t", "asker", "hybrid"]) fun _ _ _ _ _ _ us hl => match us, hl with | [_, _, _, _, _], _ => rfl
    a_are_others := f16
    d_are_others := PySem.W.fnOf "are_others" "are_others" (defArgs s_are_others) (defBody s_are_others) (defScope s_are_others) .none kV16 dc16 pm16 an16 cd16 ct16
    F_are_others := fun_mk (st := s_are_others) l16 c16 k16
    g_are_others := PySem.W.mg_of X G a16
    b_are_others := (fun_mk (st := s_are_others) l16 c16 k16).binds (ps := ["n", "q", "j", "value"]) fun _ _ _ _ _ _ us hl => match us, hl with | [_, _, _, _], _ => rfl
    a_made_test := f17
    d_made_test := PySem.W.fnOf "made_test" "made_test" (defArgs s_made_test) (defBody s_made_test) (defScope s_made_test) .none kV17 dc17 pm17 an17 cd17 ct17
    F_made_test := fun_mk (st := s_made_test) l17 c17 k17
    g_made_test := PySem.W.mg_of X G a17
    b_made_test := (fun_mk (st := s_made_test) l17 c17 k17).binds (ps := ["n", "doubling", "t", "asker", "i", "j", "others"]) fun _ _ _ _ _ _ us hl => match us, hl with | [_, _, _, _, _, _, _], _ => rfl
    a_fraction_in := f18
    d_fraction_in := PySem.W.fnOf "fraction_in" "fraction_in" (defArgs s_fraction_in) (defBody s_fraction_in) (defScope s_fraction_in) .none kV18 dc18 pm18 an18 cd18 ct18
    F_fraction_in := fun_mk (st := s_fraction_in) l18 c18 k18
    g_fraction_in := PySem.W.mg_of X G a18
    b_fraction_in := (fun_mk (st := s_fraction_in) l18 c18 k18).binds (ps := ["top", "bottom"]) fun _ _ _ _ _ _ us hl => match us, hl with | [_, _], _ => rfl
    a_are_bits := f19
    d_are_bits := PySem.W.fnOf "are_bits" "are_bits" (defArgs s_are_bits) (defBody s_are_bits) (defScope s_are_bits) .none kV19 dc19 pm19 an19 cd19 ct19
    F_are_bits := fun_mk (st := s_are_bits) l19 c19 k19
    g_are_bits := PySem.W.mg_of X G a19
    b_are_bits := (fun_mk (st := s_are_bits) l19 c19 k19).binds (ps := ["value", "many"]) fun _ _ _ _ _ _ us hl => match us, hl with | [_, _], _ => rfl
    a_pair_edge_tops := f20
    d_pair_edge_tops := PySem.W.fnOf "pair_edge_tops" "pair_edge_tops" (defArgs s_pair_edge_tops) (defBody s_pair_edge_tops) (defScope s_pair_edge_tops) .none kV20 dc20 pm20 an20 cd20 ct20
    F_pair_edge_tops := fun_mk (st := s_pair_edge_tops) l20 c20 k20
    g_pair_edge_tops := PySem.W.mg_of X G a20
    b_pair_edge_tops := (fun_mk (st := s_pair_edge_tops) l20 c20 k20).binds (ps := ["n", "doubling", "test"]) fun _ _ _ _ _ _ us hl => match us, hl with | [_, _, _], _ => rfl
    a_pair_edge := f21
    d_pair_edge := PySem.W.fnOf "pair_edge" "pair_edge" (defArgs s_pair_edge) (defBody s_pair_edge) (defScope s_pair_edge) .none kV21 dc21 pm21 an21 cd21 ct21
    F_pair_edge := fun_mk (st := s_pair_edge) l21 c21 k21
    g_pair_edge := PySem.W.mg_of X G a21
    b_pair_edge := (fun_mk (st := s_pair_edge) l21 c21 k21).binds (ps := ["n", "doubling", "test"]) fun _ _ _ _ _ _ us hl => match us, hl with | [_, _, _], _ => rfl
    a__law_fr_up := f22
    d__law_fr_up := PySem.W.fnOf "_law_fr_up" "_law_fr_up" (defArgs s__law_fr_up) (defBody s__law_fr_up) (defScope s__law_fr_up) .none kV22 dc22 pm22 an22 cd22 ct22
    F__law_fr_up := fun_mk (st := s__law_fr_up) l22 c22 k22
    g__law_fr_up := PySem.W.mg_of X G a22
    b__law_fr_up := (fun_mk (st := s__law_fr_up) l22 c22 k22).binds (ps := ["hat", "total"]) fun _ _ _ _ _ _ us hl => match us, hl with | [_, _], _ => rfl
    a__law_fr_of := f23
    d__law_fr_of := PySem.W.fnOf "_law_fr_of" "_law_fr_of" (defArgs s__law_fr_of) (defBody s__law_fr_of) (defScope s__law_fr_of) .none kV23 dc23 pm23 an23 cd23 ct23
    F__law_fr_of := fun_mk (st := s__law_fr_of) l23 c23 k23
    g__law_fr_of := PySem.W.mg_of X G a23
    b__law_fr_of := (fun_mk (st := s__law_fr_of) l23 c23 k23).binds (ps := ["hat", "items"]) fun _ _ _ _ _ _ us hl => match us, hl with | [_, _], _ => rfl
    a__law_tr_doubling := f24
    d__law_tr_doubling := PySem.W.fnOf "_law_tr_doubling" "_law_tr_doubling" (defArgs s__law_tr_doubling) (defBody s__law_tr_doubling) (defScope s__law_tr_doubling) .none kV24 dc24 pm24 an24 cd24 ct24
    F__law_tr_doubling := fun_mk (st := s__law_tr_doubling) l24 c24 k24
    g__law_tr_doubling := PySem.W.mg_of X G a24
    b__law_tr_doubling := (fun_mk (st := s__law_tr_doubling) l24 c24 k24).binds (ps := ["hat", "n"]) fun _ _ _ _ _ _ us hl => match us, hl with | [_, _], _ => rfl
    a__law_tr_asker := f25
    d__law_tr_asker := PySem.W.fnOf "_law_tr_asker" "_law_tr_asker" (defArgs s__law_tr_asker) (defBody s__law_tr_asker) (defScope s__law_tr_asker) .none kV25 dc25 pm25 an25 cd25 ct25
    F__law_tr_asker := fun_mk (st := s__law_tr_asker) l25 c25 k25
    g__law_tr_asker := PySem.W.mg_of X G a25
    b__law_tr_asker := (fun_mk (st := s__law_tr_asker) l25 c25 k25).binds (ps := ["hat", "n", "t", "left"]) fun _ _ _ _ _ _ us hl => match us, hl with | [_, _, _, _], _ => rfl
    a__law_fr_bits := f26
    d__law_fr_bits := PySem.W.fnOf "_law_fr_bits" "_law_fr_bits" (defArgs s__law_fr_bits) (defBody s__law_fr_bits) (defScope s__law_fr_bits) .none kV26 dc26 pm26 an26 cd26 ct26
    F__law_fr_bits := fun_mk (st := s__law_fr_bits) l26 c26 k26
    g__law_fr_bits := PySem.W.mg_of X G a26
    b__law_fr_bits := (fun_mk (st := s__law_fr_bits) l26 c26 k26).binds (ps := ["hat", "many"]) fun _ _ _ _ _ _ us hl => match us, hl with | [_, _], _ => rfl
    a_questions := f27
    d_questions := PySem.W.fnOf "questions" "questions" (defArgs s_questions) (defBody s_questions) (defScope s_questions) .none kV27 dc27 pm27 an27 cd27 ct27
    F_questions := fun_mk (st := s_questions) l27 c27 k27
    g_questions := PySem.W.mg_of X G a27
    b_questions := (fun_mk (st := s_questions) l27 c27 k27).binds (ps := ["n", "t", "asker"]) fun _ _ _ _ _ _ us hl => match us, hl with | [_, _, _], _ => rfl
    a__law_fr_shared := f28
    d__law_fr_shared := PySem.W.fnOf "_law_fr_shared" "_law_fr_shared" (defArgs s__law_fr_shared) (defBody s__law_fr_shared) (defScope s__law_fr_shared) .none kV28 dc28 pm28 an28 cd28 ct28
    F__law_fr_shared := fun_mk (st := s__law_fr_shared) l28 c28 k28
    g__law_fr_shared := PySem.W.mg_of X G a28
    b__law_fr_shared := (fun_mk (st := s__law_fr_shared) l28 c28 k28).binds (ps := ["one", "other"]) fun _ _ _ _ _ _ us hl => match us, hl with | [_, _], _ => rfl
    a__law_fr_made := f29
    d__law_fr_made := PySem.W.fnOf "_law_fr_made" "_law_fr_made" (defArgs s__law_fr_made) (defBody s__law_fr_made) (defScope s__law_fr_made) .none kV29 dc29 pm29 an29 cd29 ct29
    F__law_fr_made := fun_mk (st := s__law_fr_made) l29 c29 k29
    g__law_fr_made := PySem.W.mg_of X G a29
    b__law_fr_made := (fun_mk (st := s__law_fr_made) l29 c29 k29).binds (ps := ["top", "bottom"]) fun _ _ _ _ _ _ us hl => match us, hl with | [_, _], _ => rfl
    a__law_tr_edge := f30
    d__law_tr_edge := PySem.W.fnOf "_law_tr_edge" "_law_tr_edge" (defArgs s__law_tr_edge) (defBody s__law_tr_edge) (defScope s__law_tr_edge) .none kV30 dc30 pm30 an30 cd30 ct30
    F__law_tr_edge := fun_mk (st := s__law_tr_edge) l30 c30 k30
    g__law_tr_edge := PySem.W.mg_of X G a30
    b__law_tr_edge := (fun_mk (st := s__law_tr_edge) l30 c30 k30).binds (ps := ["doubling", "test"]) fun _ _ _ _ _ _ us hl => match us, hl with | [_, _], _ => rfl
    a__law_tr_others := f31
    d__law_tr_others := PySem.W.fnOf "_law_tr_others" "_law_tr_others" (defArgs s__law_tr_others) (defBody s__law_tr_others) (defScope s__law_tr_others) .none kV31 dc31 pm31 an31 cd31 ct31
    F__law_tr_others := fun_mk (st := s__law_tr_others) l31 c31 k31
    g__law_tr_others := PySem.W.mg_of X G a31
    b__law_tr_others := (fun_mk (st := s__law_tr_others) l31 c31 k31).binds (ps := ["hat", "n", "q", "j"]) fun _ _ _ _ _ _ us hl => match us, hl with | [_, _, _, _], _ => rfl
    a__law_tr_below := f32
    d__law_tr_below := PySem.W.fnOf "_law_tr_below" "_law_tr_below" (defArgs s__law_tr_below) (defBody s__law_tr_below) (defScope s__law_tr_below) .none kV32 dc32 pm32 an32 cd32 ct32
    F__law_tr_below := fun_mk (st := s__law_tr_below) l32 c32 k32
    g__law_tr_below := PySem.W.mg_of X G a32
    b__law_tr_below := (fun_mk (st := s__law_tr_below) l32 c32 k32).binds (ps := ["doubling", "i", "j", "others", "tested", "index"]) fun _ _ _ _ _ _ us hl => match us, hl with | [_, _, _, _, _, _], _ => rfl
    a__law_tr_leaf := f33
    d__law_tr_leaf := PySem.W.fnOf "_law_tr_leaf" "_law_tr_leaf" (defArgs s__law_tr_leaf) (defBody s__law_tr_leaf) (defScope s__law_tr_leaf) .none kV33 dc33 pm33 an33 cd33 ct33
    F__law_tr_leaf := fun_mk (st := s__law_tr_leaf) l33 c33 k33
    g__law_tr_leaf := PySem.W.mg_of X G a33
    b__law_tr_leaf := (fun_mk (st := s__law_tr_leaf) l33 c33 k33).binds (ps := ["doubling", "t", "seed", "x"]) fun _ _ _ _ _ _ us hl => match us, hl with | [_, _, _, _], _ => rfl
    a__law_tr_met := f34
    d__law_tr_met := PySem.W.fnOf "_law_tr_met" "_law_tr_met" (defArgs s__law_tr_met) (defBody s__law_tr_met) (defScope s__law_tr_met) .none kV34 dc34 pm34 an34 cd34 ct34
    F__law_tr_met := fun_mk (st := s__law_tr_met) l34 c34 k34
    g__law_tr_met := PySem.W.mg_of X G a34
    b__law_tr_met := (fun_mk (st := s__law_tr_met) l34 c34 k34).binds (ps := ["doubling", "t", "asker", "i", "j", "others", "tested"]) fun _ _ _ _ _ _ us hl => match us, hl with | [_, _, _, _, _, _, _], _ => rfl
    a__law_tr_test := f35
    d__law_tr_test := PySem.W.fnOf "_law_tr_test" "_law_tr_test" (defArgs s__law_tr_test) (defBody s__law_tr_test) (defScope s__law_tr_test) .none kV35 dc35 pm35 an35 cd35 ct35
    F__law_tr_test := fun_mk (st := s__law_tr_test) l35 c35 k35
    g__law_tr_test := PySem.W.mg_of X G a35
    b__law_tr_test := (fun_mk (st := s__law_tr_test) l35 c35 k35).binds (ps := ["n", "doubling", "t", "asker", "i", "j", "others"]) fun _ _ _ _ _ _ us hl => match us, hl with | [_, _, _, _, _, _, _], _ => rfl
    a__law_right := f36
    d__law_right := PySem.W.fnOf "_law_right" "_law_right" (defArgs s__law_right) (defBody s__law_right) (defScope s__law_right) .none kV36 dc36 pm36 an36 cd36 ct36
    F__law_right := fun_mk (st := s__law_right) l36 c36 k36
    g__law_right := PySem.W.mg_of X G a36
    b__law_right := (fun_mk (st := s__law_right) l36 c36 k36).binds (ps := ["hat"]) fun _ _ _ _ _ _ us hl => match us, hl with | [_], _ => rfl
    a_law := f37
    d_law := PySem.W.fnOf "law" "law" (defArgs s_law) (defBody s_law) (defScope s_law) .none kV37 dc37 pm37 an37 cd37 ct37
    F_law := fun_mk (st := s_law) l37 c37 k37
    g_law := PySem.W.mg_of X G a37
    b_law := (fun_mk (st := s_law) l37 c37 k37).binds (ps := ["script"]) fun _ _ _ _ _ _ us hl => match us, hl with | [_], _ => rfl
    z_abs := PySem.W.mg_none_of X G z_abs
    z_all := PySem.W.mg_none_of X G z_all
    z_bool := PySem.W.mg_none_of X G z_bool
    z_int := PySem.W.mg_none_of X G z_int
    z_isinstance := PySem.W.mg_none_of X G z_isinstance
    z_len := PySem.W.mg_none_of X G z_len
    z_max := PySem.W.mg_none_of X G z_max
    z_min := PySem.W.mg_none_of X G z_min
    z_range := PySem.W.mg_none_of X G z_range
    z_set := PySem.W.mg_none_of X G z_set
    z_sum := PySem.W.mg_none_of X G z_sum
    z_tuple := PySem.W.mg_none_of X G z_tuple
    i_gcd := PySem.W.mg_of X G i_gcd
    t_MOST_BITS := t_MOST_BITS
    k_MOST_BITS := PySem.W.mg_of X G k_MOST_BITS
    t_MOST_LEVELS := t_MOST_LEVELS
    k_MOST_LEVELS := PySem.W.mg_of X G k_MOST_LEVELS
    t_MOST_QUESTIONS := t_MOST_QUESTIONS
    k_MOST_QUESTIONS := PySem.W.mg_of X G k_MOST_QUESTIONS
    t_PAIR := t_PAIR
    k_PAIR := PySem.W.mg_of X G k_PAIR }⟩
/-- the promise of the law's own def, at a script -/
theorem sp_law {K : PySem.W.Frag} (H : Hp) (a : Addr) (ns : List Int) (hl : ns.length ≤ 63) (hS : SqL K H a (ns.map V.int)) : spOf K ⟨[], fun _ => 0, fun _ => ""⟩ m_law [.ref a] H (fun v _ => v = .bl true) fun _ _ _ => False := by
  obtain ⟨outs, e⟩ := law_true ns hl
  refine ⟨fun _ => False, [.scr ns], ⟨rfl, fun i x q => ?_, fun i ms q => ?_, fun i b c q => ?_, fun i j p b c b' c' _ q => ?_⟩, (fun _ z => z.elim), (fun _ z => nomatch z), ?_⟩
  · rcases get_cons q with ⟨_, z⟩ | ⟨_, _, z⟩
    · cases z
    · cases z
  · rcases get_cons q with ⟨rfl, z⟩ | ⟨_, _, z⟩
    · cases z
      exact ⟨a, rfl, hS.elim (fun z => .inl ⟨z, fun z => z⟩) .inr⟩
    · cases z
  · rcases get_cons q with ⟨_, z⟩ | ⟨_, _, z⟩
    · cases z
    · cases z
  · rcases get_cons q with ⟨_, z⟩ | ⟨_, _, z⟩
    · cases z
    · cases z
  · rw [e]
    exact fun v H' M' _ r => r.bl_inv
theorem fin_law {l : PySem.W.OpenLaw} {w : World} {K : PySem.W.Frag} {mg : Str → Option Value} {fa : Addr} (T : Txt K mg) (hfa : mg "law" = some (.ref fa)) :
    ∃ fd : FuncData, (∀ (s : Shared) (v : Value), BindsTo s fd ⟨[v], []⟩ [("script", v)]) ∧ ∀ base : Heap, K.In base → base.Ns mainGlobals mg → FnOk l.prog w K mg base (L2.CX l.prog w) 14 fa fd ["script"] (spOf K ⟨[], fun _ => 0, fun _ => ""⟩ m_law) := by
  have e := hfa.symm.trans T.g_law
  cases e
  exact ⟨T.d_law, fun s v => by obtain ⟨oc, od, kV, doc, pm, an, cdv, ct, osl, e, _, _⟩ := T.F_law.ex; rw [e]; exact .of_eq rfl, fun base _ _ => ok_law T⟩
end k87
end DE
open PySem PySem.W PyProof.Rows
set_option maxHeartbeats 0 in
theorem PySem.Challenge.cw_hardbits_k87_whole_made_tests_holds : PySem.Challenge.rw_hardbits_k87_whole_made_tests.Holds := by
  w_on; o_law; k_head; (case hw => w_witness2)
  k_fill
  refine L2.walk_of (l := PySem.Challenge.rw_hardbits_k87_whole_made_tests) (n := 63) (k := 14) (x := "script") (CX := fun w => L2.CX (PySem.Challenge.rw_hardbits_k87_whole_made_tests).prog w) (sp := fun w => DE.spOf _ ⟨[], fun _ => 0, fun _ => ""⟩ DE.k87.m_law) rfl (by decide) rfl ⟨rfl, by decide, by decide⟩ (fun w h Y => PySem.W.kIn_of Y) ?F (fun _ H a ns hl _ hS => DE.k87.sp_law H a ns hl hS) (fun _ _ _ _ _ z => by obtain ⟨_, _, _, _, _, _, _, _, _, _, _, _, q⟩ := z; exact q)
  case F =>
    intro w mg fa h KX G hmg
    refine' (DE.k87.txt_mk KX G ?a0 ?l0 ?c0 ?k0 ?a1 ?l1 ?c1 ?k1 ?a2 ?l2 ?c2 ?k2 ?a3 ?l3 ?c3 ?k3 ?a4 ?l4 ?c4 ?k4 ?a5 ?l5 ?c5 ?k5 ?a6 ?l6 ?c6 ?k6 ?a7 ?l7 ?c7 ?k7 ?a8 ?l8 ?c8 ?k8 ?a9 ?l9 ?c9 ?k9 ?a10 ?l10 ?c10 ?k10 ?a11 ?l11 ?c11 ?k11 ?a12 ?l12 ?c12 ?k12 ?a13 ?l13 ?c13 ?k13 ?a14 ?l14 ?c14 ?k14 ?a15 ?l15 ?c15 ?k15 ?a16 ?l16 ?c16 ?k16 ?a17 ?l17 ?c17 ?k17 ?a18 ?l18 ?c18 ?k18 ?a19 ?l19 ?c19 ?k19 ?a20 ?l20 ?c20 ?k20 ?a21 ?l21 ?c21 ?k21 ?a22 ?l22 ?c22 ?k22 ?a23 ?l23 ?c23 ?k23 ?a24 ?l24 ?c24 ?k24 ?a25 ?l25 ?c25 ?k25 ?a26 ?l26 ?c26 ?k26 ?a27 ?l27 ?c27 ?k27 ?a28 ?l28 ?c28 ?k28 ?a29 ?l29 ?c29 ?k29 ?a30 ?l30 ?c30 ?k30 ?a31 ?l31 ?c31 ?k31 ?a32 ?l32 ?c32 ?k32 ?a33 ?l33 ?c33 ?k33 ?a34 ?l34 ?c34 ?k34 ?a35 ?l35 ?c35 ?k35 ?a36 ?l36 ?c36 ?k36 ?a37 ?l37 ?c37 ?k37 ?z_abs ?z_all ?z_bool ?z_int ?z_isinstance ?z_len ?z_max ?z_min ?z_range ?z_set ?z_sum ?z_tuple ?i_gcd ?k_MOST_BITS ?k_MOST_LEVELS ?k_MOST_QUESTIONS ?k_PAIR).elim fun T => DE.k87.fin_law T hmg
    (case a0 => k_is); (case l0 => k_is); (case c0 => k_is); (case k0 => k_is); (case a1 => k_is); (case l1 => k_is); (case c1 => k_is); (case k1 => k_is); (case a2 => k_is); (case l2 => k_is); (case c2 => k_is); (case k2 => k_is); (case a3 => k_is); (case l3 => k_is); (case c3 => k_is); (case k3 => k_is); (case a4 => k_is); (case l4 => k_is); (case c4 => k_is); (case k4 => k_is); (case a5 => k_is); (case l5 => k_is); (case c5 => k_is); (case k5 => k_is); (case a6 => k_is); (case l6 => k_is); (case c6 => k_is); (case k6 => k_is); (case a7 => k_is); (case l7 => k_is); (case c7 => k_is); (case k7 => k_is); (case a8 => k_is); (case l8 => k_is); (case c8 => k_is); (case k8 => k_is); (case a9 => k_is); (case l9 => k_is); (case c9 => k_is); (case k9 => k_is); (case a10 => k_is); (case l10 => k_is); (case c10 => k_is); (case k10 => k_is); (case a11 => k_is); (case l11 => k_is); (case c11 => k_is); (case k11 => k_is); (case a12 => k_is); (case l12 => k_is); (case c12 => k_is); (case k12 => k_is); (case a13 => k_is); (case l13 => k_is); (case c13 => k_is); (case k13 => k_is); (case a14 => k_is); (case l14 => k_is); (case c14 => k_is); (case k14 => k_is); (case a15 => k_is); (case l15 => k_is); (case c15 => k_is); (case k15 => k_is); (case a16 => k_is); (case l16 => k_is); (case c16 => k_is); (case k16 => k_is); (case a17 => k_is); (case l17 => k_is); (case c17 => k_is); (case k17 => k_is); (case a18 => k_is); (case l18 => k_is); (case c18 => k_is); (case k18 => k_is); (case a19 => k_is); (case l19 => k_is); (case c19 => k_is); (case k19 => k_is); (case a20 => k_is); (case l20 => k_is); (case c20 => k_is); (case k20 => k_is); (case a21 => k_is); (case l21 => k_is); (case c21 => k_is); (case k21 => k_is); (case a22 => k_is); (case l22 => k_is); (case c22 => k_is); (case k22 => k_is); (case a23 => k_is); (case l23 => k_is); (case c23 => k_is); (case k23 => k_is); (case a24 => k_is); (case l24 => k_is); (case c24 => k_is); (case k24 => k_is); (case a25 => k_is); (case l25 => k_is); (case c25 => k_is); (case k25 => k_is); (case a26 => k_is); (case l26 => k_is); (case c26 => k_is); (case k26 => k_is); (case a27 => k_is); (case l27 => k_is); (case c27 => k_is); (case k27 => k_is); (case a28 => k_is); (case l28 => k_is); (case c28 => k_is); (case k28 => k_is); (case a29 => k_is); (case l29 => k_is); (case c29 => k_is); (case k29 => k_is); (case a30 => k_is); (case l30 => k_is); (case c30 => k_is); (case k30 => k_is); (case a31 => k_is); (case l31 => k_is); (case c31 => k_is); (case k31 => k_is); (case a32 => k_is); (case l32 => k_is); (case c32 => k_is); (case k32 => k_is); (case a33 => k_is); (case l33 => k_is); (case c33 => k_is); (case k33 => k_is); (case a34 => k_is); (case l34 => k_is); (case c34 => k_is); (case k34 => k_is); (case a35 => k_is); (case l35 => k_is); (case c35 => k_is); (case k35 => k_is); (case a36 => k_is); (case l36 => k_is); (case c36 => k_is); (case k36 => k_is); (case a37 => k_is); (case l37 => k_is); (case c37 => k_is); (case k37 => k_is); (case z_abs => k_is); (case z_all => k_is); (case z_bool => k_is); (case z_int => k_is); (case z_isinstance => k_is); (case z_len => k_is); (case z_max => k_is); (case z_min => k_is); (case z_range => k_is); (case z_set => k_is); (case z_sum => k_is); (case z_tuple => k_is); (case i_gcd => k_is); (case k_MOST_BITS => k_is); (case k_MOST_LEVELS => k_is); (case k_MOST_QUESTIONS => k_is); (case k_PAIR => k_is)
