import PyProof.Rows.All
import Wide.All
import OpenK.AllK
import Wide.FinOn
import HandS.ForMost
import HandS.Lambda
import HandS.Deep
import HandS.Style
import HandS.IsInst
import HandS.TupAny
import HandS.Wide
import HandS.TupMul
import KE.SortData
import KE.SortKeyHeap
import HandS.Small
import HandS.Conv
import HandS.Rev
import HandS.Zip
import HandS.TupLen
import HandS.More
import HandS.NoneIn
import KE.GoesMore
import PyProof.EnumMake
import HandS.Strs
import KE.DataCmp
import HandS.Set
import KE.KRevSl
import HandS.SetFor
import HandS.Flow
import HandS.SortKw
import HandS.RaiseMore
import HandS.DictTup
import PyProof.DictMoreH
import KE.KSortKey
import HandS.Nested
import HandS.Defaults
import HandS.Ends
import HandS.EndTab
import PySem.Challenge.RW_restways_k63_rings_of_elders
set_option Elab.async false
set_option maxRecDepth 100000
set_option linter.unusedVariables false
namespace Y
open PySem L2

/-- data by content; ref: the n-th box of the state -/
inductive D where
  | non | bl (b : Bool) | int (i : Int) | str (x : Str)
  | tup (ds : List D) | lst (ds : List D) | dct (kvs : List (D × D)) | set (ds : List D)
  | dcu (kvs : List (D × D)) | ctup (ds : List D) | clst (ds : List D)
  | ftup (ds : List D)
  | ref (n : Nat)
  deriving Inhabited

mutual
def D.beq : D → D → Bool
  | .non, .non => true
  | .bl a, .bl b => a == b
  | .int a, .int b => a == b
  | .str a, .str b => a == b
  | .tup a, .tup b => D.beqL a b
  | .lst a, .lst b => D.beqL a b
  | .dct a, .dct b => D.beqP a b
  | .set a, .set b => D.beqL a b
  | .dcu a, .dcu b => D.beqP a b
  | .ctup a, .ctup b => D.beqL a b
  | .clst a, .clst b => D.beqL a b
  | .ftup a, .ftup b => D.beqL a b
  | .ref a, .ref b => a == b
  | _, _ => false
def D.beqL : List D → List D → Bool
  | [], [] => true
  | a :: as, b :: bs => D.beq a b && D.beqL as bs
  | _, _ => false
def D.beqP : List (D × D) → List (D × D) → Bool
  | [], [] => true
  | (a, c) :: as, (b, e) :: bs => D.beq a b && D.beq c e && D.beqP as bs
  | _, _ => false
end

mutual
theorem D.beq_eq : ∀ (a b : D), D.beq a b = true ↔ a = b
  | .non, b => by cases b <;> simp [D.beq]
  | .bl a, b => by cases b <;> simp [D.beq]
  | .int a, b => by cases b <;> simp [D.beq]
  | .str a, b => by cases b <;> simp [D.beq]
  | .tup a, b => by cases b <;> simp [D.beq, D.beqL_eq a]
  | .lst a, b => by cases b <;> simp [D.beq, D.beqL_eq a]
  | .dct a, b => by cases b <;> simp [D.beq, D.beqP_eq a]
  | .set a, b => by cases b <;> simp [D.beq, D.beqL_eq a]
  | .dcu a, b => by cases b <;> simp [D.beq, D.beqP_eq a]
  | .ctup a, b => by cases b <;> simp [D.beq, D.beqL_eq a]
  | .clst a, b => by cases b <;> simp [D.beq, D.beqL_eq a]
  | .ftup a, b => by cases b <;> simp [D.beq, D.beqL_eq a]
  | .ref a, b => by cases b <;> simp [D.beq]
theorem D.beqL_eq : ∀ (a b : List D), D.beqL a b = true ↔ a = b
  | [], b => by cases b <;> simp [D.beqL]
  | x :: xs, b => by cases b <;> simp [D.beqL, D.beq_eq x, D.beqL_eq xs]
theorem D.beqP_eq : ∀ (a b : List (D × D)), D.beqP a b = true ↔ a = b
  | [], b => by cases b <;> simp [D.beqP]
  | (x, y) :: xs, b => by
    cases b with
    | nil => simp [D.beqP]
    | cons p ps => obtain ⟨p1, p2⟩ := p; simp [D.beqP, D.beq_eq x, D.beq_eq y, D.beqP_eq xs]
end
instance : DecidableEq D := fun a b => decidable_of_iff _ (D.beq_eq a b)

/-- the tables of code objects, of the defs that make lambdas -/
class TabC where
  T : List (Addr × Str)
variable [TabC]
def Tbs (H : Hp) : Prop := LamX.Tabs TabC.T H
theorem Tbs.ext {H H' : Hp} (t : Tbs H) (e : ∀ b o, H b = some o → H' b = some o) : Tbs H' := LamX.Tabs.ext t e
theorem Tbs.alloc {H : Hp} {p : Addr} {o : HO} (t : Tbs H) (hp : H p = none) : Tbs (upd H p o) := t.ext fun b u h => by rw [upd_ne (ne_of_none h hp)]; exact h
/-- no table, no code object -/
def Plain (o : HO) : Prop := (∀ ps, o ≠ .tbl ps) ∧ ∀ c q, o ≠ LamX.CodeO c q
theorem Plain.lst {xs : List V} : Plain (.lst xs) := ⟨(fun _ e => by cases e), (fun _ _ e => by unfold LamX.CodeO at e; cases e)⟩
theorem Plain.dK {xs : List (Key × V)} : Plain (.dK xs) := ⟨(fun _ e => by cases e), (fun _ _ e => by unfold LamX.CodeO at e; cases e)⟩
theorem Plain.dT {xs : List (List Key × V)} : Plain (.dT xs) := ⟨(fun _ e => by cases e), (fun _ _ e => by unfold LamX.CodeO at e; cases e)⟩
theorem Plain.frz {o : Obj} {u : HO} : Plain (.frz o u) := ⟨(fun _ e => by cases e), (fun _ _ e => by unfold LamX.CodeO at e; cases e)⟩
theorem Plain.tup {xs : List V} : Plain (.tup xs) := ⟨(fun _ e => by cases e), (fun _ _ e => by unfold LamX.CodeO at e; cases e)⟩
/-- a plain object is written -/
theorem Tbs.put {H H' : Hp} {a : Addr} {o : HO} (t : Tbs H) (ha : H a = some o) (p : Plain o) (k : ∀ b u, b ≠ a → H b = some u → H' b = some u) : Tbs H' := fun q hq => by
  obtain ⟨ps, h1, h2, h3⟩ := t q hq
  refine ⟨ps, k _ _ (fun e => ?_) h1, h2, fun pos cv hc => ?_⟩
  · rw [e, ha] at h1; exact p.1 _ (Option.some.inj h1)
  · obtain ⟨c, e1, e2⟩ := h3 pos cv hc
    refine ⟨c, e1, k _ _ (fun e => ?_) e2⟩
    rw [e, ha] at e2; exact p.2 _ _ (Option.some.inj e2)

/-- the world: where the boxes stand; which objects are shared (never written again) -/
structure Wd where
  mu : List Addr
  F : Addr → Prop

def SqF (K : PySem.W.Frag) (W : Wd) (H : Hp) (a : Addr) (xs : List V) : Prop :=
  (W.F a ∧ H a = some (.lst xs)) ∨ (∃ o, H a = some (.frz o (.lst xs)))
theorem SqF.sq {K : PySem.W.Frag} {W : Wd} {H : Hp} {a : Addr} {xs : List V} (h : SqF K W H a xs) : SqL K H a xs := by
  rcases h with ⟨_, h⟩ | ⟨o, h⟩
  · exact .inl (.inl h)
  · exact .inl (.inr ⟨o, h⟩)
theorem SqF.rd {K : PySem.W.Frag} {W : Wd} {H : Hp} {a : Addr} {xs : List V} (h : SqF K W H a xs) : Rd H a (.lst xs) := by
  rcases h with ⟨_, h⟩ | ⟨o, h⟩
  · exact .inl h
  · exact .inr ⟨o, h⟩
/-- a list that nobody writes: the script, a constant -/
def SqC (K : PySem.W.Frag) (W : Wd) (H : Hp) (a : Addr) (xs : List V) : Prop :=
  (W.F a ∧ H a = some (.lst xs)) ∨ (∃ o, H a = some (.frz o (.lst xs))) ∨
    ∃ (o : Obj) (its : Array Value) (n : Nat), K.lookup a = some o ∧ o.cls = .type "list" ∧ o.dict = none ∧ o.data = .seq its n ∧ its.size ≤ sizeLine ∧ Vals xs its.toList
theorem SqC.sq {K : PySem.W.Frag} {W : Wd} {H : Hp} {a : Addr} {xs : List V} (h : SqC K W H a xs) : SqL K H a xs := by
  rcases h with ⟨_, h⟩ | ⟨o, h⟩ | h
  · exact .inl (.inl h)
  · exact .inl (.inr ⟨o, h⟩)
  · exact .inr h
/-- a dict that was locked for good -/
def DkO (o : HO) : Prop := (∃ kvs : List (Key × V), o = .dK kvs) ∨ ∃ kvs : List (List Key × V), o = .dT kvs
def Frzn (H : Hp) (a : Addr) (o : HO) : Prop := ∃ (_ : DkO o) (ob : Obj), True ∧ H a = some (.frz ob o)
/-- a dict that nobody writes any more -/
def DkF (W : Wd) (H : Hp) (a : Addr) (kvs : List (Key × V)) : Prop := (W.F a ∧ H a = some (.dK kvs)) ∨ ∃ ob, H a = some (.frz ob (.dK kvs))
theorem DkF.rd {W : Wd} {H : Hp} {a : Addr} {kvs : List (Key × V)} (h : DkF W H a kvs) : Rd H a (.dK kvs) := by
  rcases h with ⟨_, h⟩ | ⟨o, h⟩
  · exact .inl h
  · exact .inr ⟨o, h⟩
/-- the same, its keys tuples -/
def DtF (W : Wd) (H : Hp) (a : Addr) (kvs : List (List Key × V)) : Prop := (W.F a ∧ H a = some (.dT kvs)) ∨ ∃ ob, H a = some (.frz ob (.dT kvs))
theorem DtF.rd {W : Wd} {H : Hp} {a : Addr} {kvs : List (List Key × V)} (h : DtF W H a kvs) : Rd H a (.dT kvs) := by
  rcases h with ⟨_, h⟩ | ⟨o, h⟩
  · exact .inl h
  · exact .inr ⟨o, h⟩
/-- an int or a text, as a key -/
def keyD : Key → D
  | .inl i => .int i
  | .inr x => .str x

mutual
inductive Den (K : PySem.W.Frag) (W : Wd) (H : Hp) : V → D → Prop
  | non : Den K W H .non .non
  | bl (b : Bool) : Den K W H (.bl b) (.bl b)
  | int (i : Int) : Den K W H (.int i) (.int i)
  | str (x : Str) : Den K W H (.str x) (.str x)
  | tup {a : Addr} {xs : List V} {ds : List D} : H a = some (.tup xs) → DenL K W H xs ds → Den K W H (.ref a) (.tup ds)
  | ctup {a : Addr} {xs : List V} {ds : List D} : SqT K H a xs → DenL K W H xs ds → Den K W H (.ref a) (.ctup ds)
  | ftup {a : Addr} {xs : List V} {ds : List D} {o : Obj} : H a = some (.frz o (.tup xs)) → o.cls = .type "tuple" → o.dict = none → DenL K W H xs ds → Den K W H (.ref a) (.ftup ds)
  | clst {a : Addr} {xs : List V} {ds : List D} : SqC K W H a xs → DenL K W H xs ds → Den K W H (.ref a) (.clst ds)
  | lst {a : Addr} {xs : List V} {ds : List D} : SqF K W H a xs → DenL K W H xs ds → Den K W H (.ref a) (.lst ds)
  | dct {a : Addr} {kvs : List (Key × V)} {ps : List (D × D)} : DkF W H a kvs → DenP K W H kvs ps → Den K W H (.ref a) (.dct ps)
  | dcu {a : Addr} {kvs : List (List Key × V)} {ps : List (D × D)} : DtF W H a kvs → DenU K W H kvs ps → Den K W H (.ref a) (.dcu ps)
  | ref {a : Addr} {n : Nat} : W.mu[n]? = some a → Den K W H (.ref a) (.ref n)
inductive DenL (K : PySem.W.Frag) (W : Wd) (H : Hp) : List V → List D → Prop
  | nil : DenL K W H [] []
  | cons {v : V} {vs : List V} {d : D} {ds : List D} : Den K W H v d → DenL K W H vs ds → DenL K W H (v :: vs) (d :: ds)
inductive DenP (K : PySem.W.Frag) (W : Wd) (H : Hp) : List (Key × V) → List (D × D) → Prop
  | nil : DenP K W H [] []
  | cons {k : Key} {v : V} {vs : List (Key × V)} {dk d : D} {ds : List (D × D)} : Den K W H (kV k) dk → Den K W H v d → DenP K W H vs ds → DenP K W H ((k, v) :: vs) ((dk, d) :: ds)
inductive DenU (K : PySem.W.Frag) (W : Wd) (H : Hp) : List (List Key × V) → List (D × D) → Prop
  | nil : DenU K W H [] []
  | cons {k : List Key} {v : V} {vs : List (List Key × V)} {d : D} {ds : List (D × D)} : Den K W H v d → DenU K W H vs ds → DenU K W H ((k, v) :: vs) ((.tup (k.map keyD), d) :: ds)
end

/-- what stands at a is a box of content d (not said who else knows it) -/
inductive ObR (K : PySem.W.Frag) (W : Wd) (H : Hp) (a : Addr) : D → Prop
  | lst {xs : List V} {ds : List D} : H a = some (.lst xs) → DenL K W H xs ds → ObR K W H a (.lst ds)
  | dct {kvs : List (Key × V)} {ps : List (D × D)} : H a = some (.dK kvs) → DenP K W H kvs ps → ObR K W H a (.dct ps)
  | dcu {kvs : List (List Key × V)} {ps : List (D × D)} : H a = some (.dT kvs) → DenU K W H kvs ps → ObR K W H a (.dcu ps)

/-- from (W, H, O) on, only boxes and what O names was written; O' names what O names, or new objects -/
structure Fr (W : Wd) (H : Hp) (O : Addr → Prop) (W' : Wd) (H' : Hp) (O' : Addr → Prop) : Prop where
  mu : ∃ more, W'.mu = W.mu ++ more ∧ ∀ a ∈ more, H a = none ∨ O a
  sub : ∀ a, W.F a → W'.F a
  new : ∀ a, W'.F a → W.F a ∨ H a = none ∨ O a
  keep : ∀ a o, H a = some o → (∀ ps, o ≠ .tbl ps) → a ∉ W.mu → ¬ O a → ¬ W.F a → H' a = some o
  dom : ∀ a, H a ≠ none → H' a ≠ none
  own : ∀ a, O' a → O a ∨ H a = none
  keepF : ∀ a o, H a = some o → (∀ ps, o ≠ .tbl ps) → a ∉ W.mu → ¬ O a → H' a = some o ∨ Frzn H' a o
theorem Fr.refl {W : Wd} {H : Hp} {O : Addr → Prop} : Fr W H O W H O :=
  ⟨⟨[], by simp, by simp⟩, fun _ h => h, fun _ h => .inl h, fun _ _ h _ _ _ _ => h, fun _ h => h, fun _ h => .inl h, fun _ _ h _ _ _ => .inl h⟩
theorem Fr.trans {W W1 W2 : Wd} {H H1 H2 : Hp} {O O1 O2 : Addr → Prop} (a : Fr W H O W1 H1 O1) (b : Fr W1 H1 O1 W2 H2 O2) : Fr W H O W2 H2 O2 := by
  have nz : ∀ x, H1 x = none → H x = none := fun x h => by
    cases e : H x with
    | none => rfl
    | some o => exact absurd h (a.dom x (by rw [e]; simp))
  have out : ∀ x o, H x = some o → x ∉ W.mu → ¬ O x → x ∉ W1.mu ∧ ¬ O1 x := fun x o h h1 h2 => by
    refine ⟨?_, fun hx => ?_⟩
    · obtain ⟨m1, e1, n1⟩ := a.mu
      rw [e1]
      intro hx
      rcases List.mem_append.mp hx with hx | hx
      · exact h1 hx
      · rcases n1 x hx with q | q
        · rw [q] at h; cases h
        · exact h2 q
    · rcases a.own x hx with hx | hx
      · exact h2 hx
      · rw [hx] at h; cases h
  refine ⟨?_, fun x h => b.sub x (a.sub x h), fun x h => ?_, fun x o h nt h1 h2 h3 => ?_, fun x h => b.dom x (a.dom x h), fun x h => ?_, fun x o h nt h1 h2 => ?_⟩
  · obtain ⟨m1, e1, n1⟩ := a.mu
    obtain ⟨m2, e2, n2⟩ := b.mu
    refine ⟨m1 ++ m2, by rw [e2, e1, List.append_assoc], fun x hx => ?_⟩
    rcases List.mem_append.mp hx with hx | hx
    · exact n1 x hx
    · rcases n2 x hx with q | q
      · exact .inl (nz x q)
      · exact (a.own x q).symm
  · rcases b.new x h with h | h | h
    · exact a.new x h
    · exact .inr (.inl (nz x h))
    · rcases a.own x h with h | h
      · exact .inr (.inr h)
      · exact .inr (.inl h)
  · obtain ⟨q1, q2⟩ := out x o h h1 h2
    refine b.keep x o (a.keep x o h nt h1 h2 h3) nt q1 q2 fun hf => ?_
    rcases a.new x hf with q | q | q
    · exact h3 q
    · rw [q] at h; cases h
    · exact h2 q
  · rcases b.own x h with h | h
    · exact a.own x h
    · exact .inr (nz x h)
  · obtain ⟨q1, q2⟩ := out x o h h1 h2
    rcases a.keepF x o h nt h1 h2 with e | ⟨kvs, ob, e1, e2⟩
    · exact b.keepF x o e nt q1 q2
    · rcases b.keepF x _ e2 (fun _ e => by cases e) q1 q2 with e | ⟨e3, _⟩
      · exact .inr ⟨kvs, ob, e1, e⟩
      · rcases e3 with ⟨_, e3⟩ | ⟨_, e3⟩ <;> cases e3

/-- what Den leans on: the boxes' places, the shared objects, the tuples -/
structure Le (W : Wd) (H : Hp) (W' : Wd) (H' : Hp) : Prop where
  mu : ∃ more, W'.mu = W.mu ++ more
  sub : ∀ a, W.F a → W'.F a
  shr : ∀ a o, H a = some o → W.F a → H' a = some o ∨ Frzn H' a o
  tup : ∀ a xs, H a = some (.tup xs) → H' a = some (.tup xs)
  frz : ∀ a o u, H a = some (.frz o u) → H' a = some (.frz o u)
theorem Le.refl {W : Wd} {H : Hp} : Le W H W H := ⟨⟨[], by simp⟩, fun _ h => h, fun _ _ h _ => .inl h, fun _ _ h => h, fun _ _ _ h => h⟩
theorem Le.keepL {W W' : Wd} {H H' : Hp} (l : Le W H W' H') {a : Addr} {o : HO} (h : H a = some o) (f : W.F a) (hn : ¬ DkO o) : H' a = some o := by
  rcases l.shr _ _ h f with h | ⟨k, _⟩
  · exact h
  · exact absurd k hn
theorem DkF.le {W W' : Wd} {H H' : Hp} (l : Le W H W' H') {a : Addr} {kvs : List (Key × V)} (h : DkF W H a kvs) : DkF W' H' a kvs := by
  rcases h with ⟨f, h⟩ | ⟨o, h⟩
  · rcases l.shr _ _ h f with h | ⟨kvs', ob, e, h⟩
    · exact .inl ⟨l.sub _ f, h⟩
    · exact .inr ⟨ob, h⟩
  · exact .inr ⟨o, l.frz _ _ _ h⟩
theorem DtF.le {W W' : Wd} {H H' : Hp} (l : Le W H W' H') {a : Addr} {kvs : List (List Key × V)} (h : DtF W H a kvs) : DtF W' H' a kvs := by
  rcases h with ⟨f, h⟩ | ⟨o, h⟩
  · rcases l.shr _ _ h f with h | ⟨kvs', ob, e, h⟩
    · exact .inl ⟨l.sub _ f, h⟩
    · exact .inr ⟨ob, h⟩
  · exact .inr ⟨o, l.frz _ _ _ h⟩
section
variable {K : PySem.W.Frag} {W W' : Wd} {H H' : Hp}
theorem SqT.le {a : Addr} {xs : List V} (l : Le W H W' H') (h : SqT K H a xs) : SqT K H' a xs := by
  rcases h with (h | ⟨o, h⟩) | h
  · exact .inl (.inl (l.tup _ _ h))
  · exact .inl (.inr ⟨o, l.frz _ _ _ h⟩)
  · exact .inr h
theorem SqF.le {a : Addr} {xs : List V} (l : Le W H W' H') (h : SqF K W H a xs) : SqF K W' H' a xs := by
  rcases h with ⟨f, h⟩ | ⟨o, h⟩
  · exact .inl ⟨l.sub _ f, l.keepL h f (fun e => by rcases e with ⟨_, e⟩ | ⟨_, e⟩ <;> cases e)⟩
  · exact .inr ⟨o, l.frz _ _ _ h⟩
theorem SqC.le {a : Addr} {xs : List V} (l : Le W H W' H') (h : SqC K W H a xs) : SqC K W' H' a xs := by
  rcases h with ⟨f, h⟩ | ⟨o, h⟩ | h
  · exact .inl ⟨l.sub _ f, l.keepL h f (fun e => by rcases e with ⟨_, e⟩ | ⟨_, e⟩ <;> cases e)⟩
  · exact .inr (.inl ⟨o, l.frz _ _ _ h⟩)
  · exact .inr (.inr h)
mutual
theorem Den.le (l : Le W H W' H') : ∀ {v : V} (d : D), Den K W H v d → Den K W' H' v d
  | _, .non, h => by cases h; exact .non
  | _, .bl b, h => by cases h; exact .bl b
  | _, .int i, h => by cases h; exact .int i
  | _, .str x, h => by cases h; exact .str x
  | _, .tup ds, h => by cases h with | tup h1 h2 => exact .tup (l.tup _ _ h1) (DenL.le l ds h2)
  | _, .ctup ds, h => by cases h with | ctup h1 h2 => exact .ctup (SqT.le l h1) (DenL.le l ds h2)
  | _, .clst ds, h => by cases h with | clst h1 h2 => exact .clst (SqC.le l h1) (DenL.le l ds h2)
  | _, .ftup ds, h => by cases h with | ftup h1 h2 h3 h4 => exact .ftup (l.frz _ _ _ h1) h2 h3 (DenL.le l ds h4)
  | _, .dcu ps, h => by cases h with | dcu h1 h2 => exact .dcu (h1.le l) (DenU.le l ps h2)
  | _, .lst ds, h => by cases h with | lst h1 h2 => exact .lst (SqF.le l h1) (DenL.le l ds h2)
  | _, .dct ps, h => by cases h with | dct h1 h2 => exact .dct (h1.le l) (DenP.le l ps h2)
  | _, .set ds, h => by cases h
  | _, .ref n, h => by
    cases h with
    | ref h =>
      obtain ⟨m, e⟩ := l.mu
      exact .ref (by rw [e, List.getElem?_append_left (List.getElem?_eq_some_iff.mp h).1]; exact h)
theorem DenL.le (l : Le W H W' H') : ∀ {vs : List V} (ds : List D), DenL K W H vs ds → DenL K W' H' vs ds
  | _, [], h => by cases h; exact .nil
  | _, d :: ds, h => by cases h with | cons h1 h2 => exact .cons (Den.le l d h1) (DenL.le l ds h2)
theorem DenP.le (l : Le W H W' H') : ∀ {vs : List (Key × V)} (ps : List (D × D)), DenP K W H vs ps → DenP K W' H' vs ps
  | _, [], h => by cases h; exact .nil
  | _, (k, d) :: ps, h => by cases h with | cons h0 h1 h2 => exact .cons (Den.le l k h0) (Den.le l d h1) (DenP.le l ps h2)
theorem DenU.le (l : Le W H W' H') : ∀ {vs : List (List Key × V)} (ps : List (D × D)), DenU K W H vs ps → DenU K W' H' vs ps
  | _, [], h => by cases h; exact .nil
  | _, (k, d) :: ps, h => by cases h with | cons h1 h2 => exact .cons (Den.le l d h1) (DenU.le l ps h2)
end
theorem ObR.le {a : Addr} {d : D} (l : Le W H W' H') (ha : ∀ o, H a = some o → H' a = some o) (h : ObR K W H a d) : ObR K W' H' a d := by
  cases h with
  | lst h1 h2 => exact .lst (ha _ h1) (DenL.le l _ h2)
  | dct h1 h2 => exact .dct (ha _ h1) (DenP.le l _ h2)
  | dcu h1 h2 => exact .dcu (ha _ h1) (DenU.le l _ h2)
theorem DenL.length : ∀ {vs : List V} {ds : List D}, DenL K W H vs ds → vs.length = ds.length
  | _, _, .nil => rfl
  | _, _, .cons _ t => by simp [DenL.length t]
theorem DenL.get : ∀ {vs : List V} {ds : List D} {i : Nat} {d : D}, DenL K W H vs ds → ds[i]? = some d → ∃ v, vs[i]? = some v ∧ Den K W H v d
  | _, _, _, _, .nil, e => by simp at e
  | _, _, 0, _, .cons h _, e => by simp at e; subst e; exact ⟨_, rfl, h⟩
  | _, _, i + 1, d, .cons _ t, e => by
    obtain ⟨v, h1, h2⟩ := DenL.get (i := i) (d := d) t (by simpa using e)
    exact ⟨v, by simpa using h1, h2⟩
theorem DenL.getV : ∀ {vs : List V} {ds : List D} {i : Nat} {v : V}, DenL K W H vs ds → vs[i]? = some v → ∃ d, ds[i]? = some d ∧ Den K W H v d
  | _, _, _, _, .nil, e => by simp at e
  | _, _, 0, _, .cons h _, e => by simp at e; subst e; exact ⟨_, rfl, h⟩
  | _, _, i + 1, v, .cons _ t, e => by
    obtain ⟨d, h1, h2⟩ := DenL.getV (i := i) (v := v) t (by simpa using e)
    exact ⟨d, by simpa using h1, h2⟩
theorem DenL.append : ∀ {vs ws : List V} {ds es : List D}, DenL K W H vs ds → DenL K W H ws es → DenL K W H (vs ++ ws) (ds ++ es)
  | _, _, _, _, .nil, h => h
  | _, _, _, _, .cons a t, h => .cons a (DenL.append t h)
theorem DenL.set : ∀ {vs : List V} {ds : List D} {i : Nat} {v : V} {d : D}, DenL K W H vs ds → Den K W H v d → DenL K W H (vs.set i v) (ds.set i d)
  | _, _, _, _, _, .nil, _ => .nil
  | _, _, 0, _, _, .cons _ t, h => .cons h t
  | _, _, i + 1, _, _, .cons a t, h => .cons a (DenL.set t h)
theorem DenL.take : ∀ {vs : List V} {ds : List D} (n : Nat), DenL K W H vs ds → DenL K W H (vs.take n) (ds.take n)
  | _, _, 0, _ => .nil
  | _, _, _ + 1, .nil => .nil
  | _, _, n + 1, .cons a t => .cons a (DenL.take n t)
theorem DenL.drop : ∀ {vs : List V} {ds : List D} (n : Nat), DenL K W H vs ds → DenL K W H (vs.drop n) (ds.drop n)
  | _, _, 0, h => h
  | _, _, _ + 1, .nil => .nil
  | _, _, n + 1, .cons _ t => DenL.drop n t
theorem DenL.reverse : ∀ {vs : List V} {ds : List D}, DenL K W H vs ds → DenL K W H vs.reverse ds.reverse
  | _, _, .nil => .nil
  | _, _, .cons a t => by rw [List.reverse_cons, List.reverse_cons]; exact (DenL.reverse t).append (.cons a .nil)
end

/-- the boxes -/
inductive Bx where
  | box (d : D)
  | ins (c : Nat) (fs : List (Str × D))
abbrev Gs := List Bx
inductive BxR (K : PySem.W.Frag) (W : Wd) (H : Hp) (a : Addr) : Bx → Prop
  | box {d : D} : ObR K W H a d → BxR K W H a (.box d)

structure Rep (K : PySem.W.Frag) (W : Wd) (G : Gs) (H : Hp) : Prop where
  len : W.mu.length = G.length
  nd : W.mu.Nodup
  ob : ∀ (n : Nat) (a : Addr) (b : Bx), W.mu[n]? = some a → G[n]? = some b → BxR K W H a b
  dis : ∀ a, W.F a → a ∉ W.mu
  fd : ∀ a, W.F a → ∃ o, H a = some o ∧ Plain o
  tabs : Tbs H

/-- what a slot holds: a value; or a list, a dict that nobody else knows -/
inductive SV where
  | val (d : D)
  | own (d : D)
abbrev Lc := List (Option SV)
def OwnA (l : Lc) (σ : L2.St) (a : Addr) : Prop := ∃ (i : Nat) (d : D), l[i]? = some (some (.own d)) ∧ σ[i]? = some (some (.ref a))
structure RepL (K : PySem.W.Frag) (W : Wd) (l : Lc) (σ : L2.St) (H : Hp) : Prop where
  len : l.length = σ.length
  val : ∀ (i : Nat) (d : D), l[i]? = some (some (.val d)) → ∃ v, σ[i]? = some (some v) ∧ Den K W H v d
  own : ∀ (i : Nat) (d : D), l[i]? = some (some (.own d)) → ∃ a, σ[i]? = some (some (.ref a)) ∧ ObR K W H a d ∧ a ∉ W.mu ∧ ¬ W.F a
  dist : ∀ (i j : Nat) (d e : D) (a : Addr), l[i]? = some (some (.own d)) → l[j]? = some (some (.own e)) → σ[i]? = some (some (.ref a)) → σ[j]? = some (some (.ref a)) → i = j

theorem BxR.lives {K : PySem.W.Frag} {W : Wd} {H : Hp} {a : Addr} {b : Bx} (h : BxR K W H a b) : ∃ o, H a = some o ∧ Mut (some o) := by
  cases h with
  | box h => cases h with
    | lst h _ => exact ⟨_, h, trivial⟩
    | dct h _ => exact ⟨_, h, trivial⟩
    | dcu h _ => exact ⟨_, h, trivial⟩
theorem ObR.plain {K : PySem.W.Frag} {W : Wd} {H : Hp} {a : Addr} {d : D} (h : ObR K W H a d) : ∃ o, H a = some o ∧ Plain o := by
  cases h with
  | lst h _ => exact ⟨_, h, .lst⟩
  | dct h _ => exact ⟨_, h, .dK⟩
  | dcu h _ => exact ⟨_, h, .dT⟩
theorem ObR.nt {K : PySem.W.Frag} {W : Wd} {H : Hp} {a : Addr} {d : D} (h : ObR K W H a d) {o : HO} (e : H a = some o) : ∀ ps, o ≠ .tbl ps := by
  obtain ⟨o', e', p⟩ := h.plain
  rw [e] at e'; cases e'
  exact p.1
theorem ObR.lives {K : PySem.W.Frag} {W : Wd} {H : Hp} {a : Addr} {d : D} (h : ObR K W H a d) : ∃ o, H a = some o ∧ Mut (some o) := BxR.lives (.box h)
theorem Rep.muMut {K : PySem.W.Frag} {W : Wd} {G : Gs} {H : Hp} (R : Rep K W G H) {a : Addr} (h : a ∈ W.mu) : ∃ o, H a = some o ∧ Mut (some o) := by
  obtain ⟨n, hn⟩ := List.getElem?_of_mem h
  have hl : n < G.length := by rw [← R.len]; exact (List.getElem?_eq_some_iff.mp hn).1
  exact (R.ob n a G[n] hn (by simp [hl])).lives
theorem RepL.ownMut {K : PySem.W.Frag} {W : Wd} {l : Lc} {σ : L2.St} {H : Hp} (R : RepL K W l σ H) {a : Addr} (h : OwnA l σ a) : ∃ o, H a = some o ∧ Mut (some o) := by
  obtain ⟨i, d, h1, h2⟩ := h
  obtain ⟨a', e, ob, _⟩ := R.own i d h1
  rw [h2] at e
  cases e
  exact ob.lives
theorem RepL.ownNot {K : PySem.W.Frag} {W : Wd} {l : Lc} {σ : L2.St} {H : Hp} (R : RepL K W l σ H) {a : Addr} (h : OwnA l σ a) : a ∉ W.mu ∧ ¬ W.F a := by
  obtain ⟨i, d, h1, h2⟩ := h
  obtain ⟨a', e, ob, n1, n2⟩ := R.own i d h1
  rw [h2] at e
  cases e
  exact ⟨n1, n2⟩
/-- a frame step leaves what Den leans on -/
theorem Fr.le {K : PySem.W.Frag} {W W' : Wd} {G : Gs} {H H' : Hp} {O O' : Addr → Prop} (f : Fr W H O W' H' O') (R : Rep K W G H) (hO : ∀ a, O a → (∃ o, H a = some o ∧ Mut (some o)) ∧ ¬ W.F a) : Le W H W' H' := by
  have key : ∀ a o, H a = some o → (∀ ps, o ≠ .tbl ps) → ¬ Mut (some o) → H' a = some o := fun a o h nt nm => by
    rcases f.keepF a o h nt (fun hm => by
      obtain ⟨o', e, m⟩ := R.muMut hm
      rw [h] at e; cases e; exact nm m) (fun ho => by
      obtain ⟨⟨o', e, m⟩, _⟩ := hO a ho
      rw [h] at e; cases e; exact nm m) with e | ⟨k, _⟩
    · exact e
    · rcases k with ⟨_, e⟩ | ⟨_, e⟩ <;> (subst e; exact absurd trivial nm)
  refine ⟨?_, f.sub, fun a o h hf => f.keepF a o h (fun ps e => ?_) (R.dis a hf) fun ho => (hO a ho).2 hf, fun a xs h => key a _ h (fun _ e => by cases e) (fun m => m), fun a o u h => key a _ h (fun _ e => by cases e) (fun m => m)⟩
  rotate_left
  · obtain ⟨o', e1, p⟩ := R.fd a hf
    rw [h] at e1; cases e1
    exact p.1 _ e
  obtain ⟨m, e, _⟩ := f.mu
  exact ⟨m, e⟩
end Y
namespace Y
variable [TabC]
open PySem L2

/-! ### results -/
inductive ER where
  | ok (d : D) (f : Bool) (l : Lc) (g : Gs)
  | ex (c : Nat) (d : D) (l : Lc) (g : Gs)
  | no
abbrev Sm := Lc → Gs → ER
def ER.bind (r : ER) (k : D → Bool → Lc → Gs → ER) : ER := match r with
  | .ok d f l g => k d f l g
  | .ex c d l g => .ex c d l g
  | .no => .no

structure Ok (K : PySem.W.Frag) (W : Wd) (l : Lc) (g : Gs) (σ : L2.St) (H : Hp) : Prop where
  rep : Rep K W g H
  loc : RepL K W l σ H
/-- a result; a new one is nobody's else: it was made behind H0, or was O0's -/
def Res (K : PySem.W.Frag) (W : Wd) (H0 : Hp) (O0 O : Addr → Prop) (H : Hp) (v : V) (d : D) : Bool → Prop
  | false => Den K W H v d
  | true => ∃ a, v = .ref a ∧ ObR K W H a d ∧ a ∉ W.mu ∧ ¬ W.F a ∧ ¬ O a ∧ (H0 a = none ∨ O0 a)
def EPost (K : PySem.W.Frag) (W : Wd) (H : Hp) (σ : L2.St) (l : Lc) (r : ER) (Q : VK) : Prop := match r with
  | .ok d f l' g' => ∀ v W' H', Ok K W' l' g' σ H' → Fr W H (OwnA l σ) W' H' (OwnA l' σ) → Res K W' H (OwnA l σ) (OwnA l' σ) H' v d f → Q v H'
  | _ => False
def tW (X : Cx) (e : Expr) : TE := fun σ H Q => ∀ (pins : List (Addr × Obj)) (s : Shared), Inv X pins σ H s → wpAny (model X.prog X.w) X.A (eval e X.env) (EP X pins σ Q) X.xe s
theorem pe_w {X : Cx} {e : Expr} : PE X e (tW X e) := ⟨fun pins s σ H Q I h => h pins s I⟩
theorem tW.of {X : Cx} {e : Expr} {t : TE} {σ : L2.St} {H : Hp} {Q : VK} (h : PE X e t) (q : t σ H Q) : tW X e σ H Q := fun pins s I => h.run pins s σ H Q I q
theorem tW.mono {X : Cx} {e : Expr} {σ : L2.St} {H : Hp} {Q Q' : VK} (h : tW X e σ H Q) (q : ∀ v H', Q v H' → Q' v H') : tW X e σ H Q' := fun pins s I =>
  thn (h pins s I) fun u s' ⟨v, H', I', r, z⟩ => ⟨v, H', I', r, q v H' z⟩
def SE (X : Cx) (e : Expr) (m : Sm) : Prop := ∀ (σ : L2.St) (H : Hp) (W : Wd) (l : Lc) (g : Gs) (Q : VK), Ok X.K W l g σ H → EPost X.K W H σ l (m l g) Q → tW X e σ H Q

section
variable {K : PySem.W.Frag} {W W1 : Wd} {H H1 : Hp} {σ : L2.St} {l l1 : Lc} {g g1 : Gs}
theorem EPost.bind {r : ER} {k : D → Bool → Lc → Gs → ER} {Q : VK} (h : EPost K W H σ l (r.bind k) Q) : ∃ d f l1 g1, r = .ok d f l1 g1 ∧ EPost K W H σ l (k d f l1 g1) Q := by
  cases r with
  | ok d f l1 g1 => exact ⟨d, f, l1, g1, rfl, h⟩
  | ex c d l g => exact False.elim h
  | no => exact False.elim h
theorem Fr.nz {W W1 : Wd} {H H1 : Hp} {O O1 : Addr → Prop} (f : Fr W H O W1 H1 O1) {a : Addr} (h : H1 a = none) : H a = none := by
  cases e : H a with
  | none => rfl
  | some o => exact absurd h (f.dom a (by rw [e]; simp))
theorem EPost.shift {r : ER} {Q : VK} (f : Fr W H (OwnA l σ) W1 H1 (OwnA l1 σ)) (h : EPost K W H σ l r Q) : EPost K W1 H1 σ l1 r Q := by
  cases r with
  | ok d fl l' g' =>
    intro v W' H' ok f' r'
    refine h v W' H' ok (f.trans f') ?_
    cases fl with
    | false => exact r'
    | true =>
      obtain ⟨a, e, ob, n1, n2, n3, z⟩ := r'
      exact ⟨a, e, ob, n1, n2, n3, z.elim (fun z => .inl (f.nz z)) fun z => (f.own a z).symm⟩
  | ex c d l g => exact h
  | no => exact h
theorem Ok.le (ok : Ok K W l g σ H) {W' : Wd} {H' : Hp} {O' : Addr → Prop} (f : Fr W H (OwnA l σ) W' H' O') : Le W H W' H' :=
  f.le ok.rep fun a ha => ⟨ok.loc.ownMut ha, (ok.loc.ownNot ha).2⟩
theorem SE.bind {X : Cx} {e : Expr} {m : Sm} {k : D → Bool → Lc → Gs → ER} {Q R : VK} (h : SE X e m) (ok : Ok X.K W l g σ H) (p : EPost X.K W H σ l ((m l g).bind k) Q)
    (go : ∀ d f l1 g1 v W1 H1, EPost X.K W1 H1 σ l1 (k d f l1 g1) Q → Ok X.K W1 l1 g1 σ H1 → Fr W H (OwnA l σ) W1 H1 (OwnA l1 σ) → Le W H W1 H1 → Res X.K W1 H (OwnA l σ) (OwnA l1 σ) H1 v d f → R v H1) : tW X e σ H R := by
  obtain ⟨d, f, l1, g1, e1, p1⟩ := p.bind
  refine h σ H W l g R ok ?_
  rw [e1]
  intro v W' H' ok' f' r'
  exact go d f l1 g1 v W' H' (p1.shift f') ok' f' (ok.le f') r'
/-- an object laid -/
theorem Le.alloc {p : Addr} {o : HO} (hp : H p = none) : Le W H W (upd H p o) :=
  ⟨⟨[], by simp⟩, fun _ h => h, fun a u h _ => .inl (by rw [upd_ne (ne_of_none h hp)]; exact h), fun a u h => by rw [upd_ne (ne_of_none h hp)]; exact h, fun a u w h => by rw [upd_ne (ne_of_none h hp)]; exact h⟩
theorem BxR.le {a : Addr} {b : Bx} (L : Le W H W1 H1) (ha : ∀ o, H a = some o → H1 a = some o) (h : BxR K W H a b) : BxR K W1 H1 a b := by
  cases h with
  | box h => exact .box (h.le L ha)
theorem Ok.alloc {p : Addr} {o : HO} (ok : Ok K W l g σ H) (hp : H p = none) : Ok K W l g σ (upd H p o) := by
  have L : Le W H W (upd H p o) := Le.alloc hp
  have k : ∀ a u, H a = some u → upd H p o a = some u := fun a u h => by rw [upd_ne (ne_of_none h hp)]; exact h
  refine ⟨⟨ok.rep.len, ok.rep.nd, fun n a b h1 h2 => (ok.rep.ob n a b h1 h2).le L (k a), ok.rep.dis, fun a h => ?_, ok.rep.tabs.alloc hp⟩, ⟨ok.loc.len, fun i d h => ?_, fun i d h => ?_, ok.loc.dist⟩⟩
  · obtain ⟨u, hu, pu⟩ := ok.rep.fd a h
    exact ⟨u, k a u hu, pu⟩
  · obtain ⟨v, e, hd⟩ := ok.loc.val i d h
    exact ⟨v, e, hd.le L⟩
  · obtain ⟨a, e, ob, n1, n2⟩ := ok.loc.own i d h
    exact ⟨a, e, ob.le L (k a), n1, n2⟩
theorem Fr.alloc {p : Addr} {o : HO} {O : Addr → Prop} (hp : H p = none) : Fr W H O W (upd H p o) O :=
  ⟨⟨[], by simp, by simp⟩, fun _ h => h, fun _ h => .inl h, fun a u h _ _ _ _ => by rw [upd_ne (ne_of_none h hp)]; exact h, fun a h => by
    unfold upd; split
    · simp
    · exact h, fun _ h => .inl h, fun a u h _ _ _ => .inl (by rw [upd_ne (ne_of_none h hp)]; exact h)⟩
theorem Ok.outside {p : Addr} (ok : Ok K W l g σ H) (hp : H p = none) : p ∉ W.mu ∧ ¬ W.F p ∧ ¬ OwnA l σ p := by
  refine ⟨fun h => ?_, fun h => ?_, fun h => ?_⟩
  · obtain ⟨o, e, _⟩ := ok.rep.muMut h
    rw [hp] at e; cases e
  · obtain ⟨o, e, _⟩ := ok.rep.fd p h
    rw [hp] at e; cases e
  · obtain ⟨o, e, _⟩ := ok.loc.ownMut h
    rw [hp] at e; cases e
/-- a fresh object becomes shared -/
def Wd.add (W : Wd) (a : Addr) : Wd := ⟨W.mu, fun b => W.F b ∨ b = a⟩
theorem Le.add {a : Addr} (hn : a ∉ W.mu) : Le W H (W.add a) H → True := fun _ => trivial
theorem Le.share {a : Addr} : Le W H (W.add a) H :=
  ⟨⟨[], by simp [Wd.add]⟩, fun _ h => .inl h, fun _ _ h _ => .inl h, fun _ _ h => h, fun _ _ _ h => h⟩
theorem Ok.share {a : Addr} {d : D} (ok : Ok K W l g σ H) (ob : ObR K W H a d) (n1 : a ∉ W.mu) (n3 : ¬ OwnA l σ a) : Ok K (W.add a) l g σ H := by
  have L : Le W H (W.add a) H := Le.share
  refine ⟨⟨ok.rep.len, ok.rep.nd, fun n b x h1 h2 => (ok.rep.ob n b x h1 h2).le L (fun _ h => h), fun b hb => ?_, fun b hb => ?_, ok.rep.tabs⟩, ⟨ok.loc.len, fun i d h => ?_, fun i d h => ?_, ok.loc.dist⟩⟩
  · rcases hb with hb | hb
    · exact ok.rep.dis b hb
    · rw [hb]; exact n1
  · rcases hb with hb | hb
    · exact ok.rep.fd b hb
    · rw [hb]
      exact ob.plain
  · obtain ⟨v, e, hd⟩ := ok.loc.val i d h
    exact ⟨v, e, hd.le L⟩
  · obtain ⟨b, e, ob', m1, m2⟩ := ok.loc.own i d h
    refine ⟨b, e, ob'.le L (fun _ h => h), m1, fun hb => ?_⟩
    rcases hb with hb | hb
    · exact m2 hb
    · rw [hb] at e
      exact n3 ⟨i, d, h, e⟩
theorem ObR.den {a : Addr} {d : D} (ob : ObR K W H a d) : Den K (W.add a) H (.ref a) d := by
  have L : Le W H (W.add a) H := Le.share
  cases ob with
  | lst h1 h2 => exact .lst (.inl ⟨.inr rfl, h1⟩) (DenL.le L _ h2)
  | dct h1 h2 => exact .dct (.inl ⟨.inr rfl, h1⟩) (DenP.le L _ h2)
  | dcu h1 h2 => exact .dcu (.inl ⟨.inr rfl, h1⟩) (DenU.le L _ h2)
theorem Fr.share {a : Addr} {H0 : Hp} {W0 : Wd} {O0 O : Addr → Prop} (f : Fr W0 H0 O0 W H O) (z : H0 a = none ∨ O0 a) : Fr W0 H0 O0 (W.add a) H O :=
  ⟨f.mu, fun b h => .inl (f.sub b h), fun b h => by
    rcases h with h | h
    · exact f.new b h
    · rw [h]; exact .inr z, f.keep, f.dom, f.own, f.keepF⟩
/-- any result, shared -/
theorem Res.shared {d : D} {f : Bool} {v : V} {W0 : Wd} {H0 : Hp} {O0 : Addr → Prop} (ok : Ok K W l g σ H) (fr : Fr W0 H0 O0 W H (OwnA l σ)) (r : Res K W H0 O0 (OwnA l σ) H v d f) :
    ∃ W', Ok K W' l g σ H ∧ Fr W0 H0 O0 W' H (OwnA l σ) ∧ Le W H W' H ∧ Den K W' H v d := by
  cases f with
  | false => exact ⟨W, ok, fr, Le.refl, r⟩
  | true =>
    obtain ⟨a, rfl, ob, n1, n2, n3, z⟩ := r
    exact ⟨W.add a, ok.share ob n1 n3, fr.share z, Le.share, ob.den⟩
/-- .. and the wish is asked there -/
theorem SE.bindV {X : Cx} {e : Expr} {m : Sm} {k : D → Bool → Lc → Gs → ER} {Q R : VK} (h : SE X e m) (ok : Ok X.K W l g σ H) (p : EPost X.K W H σ l ((m l g).bind k) Q)
    (go : ∀ d f l1 g1 v W1 H1, EPost X.K W1 H1 σ l1 (k d f l1 g1) Q → Ok X.K W1 l1 g1 σ H1 → Fr W H (OwnA l σ) W1 H1 (OwnA l1 σ) → Le W H W1 H1 → Den X.K W1 H1 v d → R v H1) : tW X e σ H R := by
  obtain ⟨d, f, l1, g1, e1, p1⟩ := p.bind
  refine h σ H W l g R ok ?_
  rw [e1]
  intro v W' H' ok' f' r'
  obtain ⟨W2, ok2, fr2, le2, den⟩ := r'.shared ok' f'
  exact go d f l1 g1 v W2 H' (p1.shift fr2) ok2 fr2 (ok.le fr2) den
end

/-! ### names and constants -/
def slotD (l : Lc) (i : Nat) : Option D := match l[i]? with
  | some (some (.val d)) => some d
  | some (some (.own d)) => some d
  | _ => none
def cVar (i : Nat) : Sm := fun l g => match l[i]? with
  | some (some (.val d)) => .ok d false l g
  | some (some (.own d)) => .ok d false (l.set i (some (.val d))) g
  | _ => .no
def cC (d : D) : Sm := fun l g => .ok d false l g

section
variable {X : Cx} {K : PySem.W.Frag} {W : Wd} {H : Hp} {σ : L2.St} {l : Lc} {g : Gs}
theorem OwnA.unset {i : Nat} {x : Option SV} (hx : ∀ d, x ≠ some (.own d)) {a : Addr} (h : OwnA (l.set i x) σ a) : OwnA l σ a := by
  obtain ⟨j, d, h1, h2⟩ := h
  by_cases hj : i = j
  · subst hj
    by_cases hl : i < l.length
    · rw [List.getElem?_set_self hl] at h1
      exact absurd (Option.some.inj h1) (hx d)
    · rw [List.getElem?_eq_none (by simpa using hl)] at h1; cases h1
  · rw [List.getElem?_set_ne hj] at h1
    exact ⟨j, d, h1, h2⟩
/-- the own thing of a slot becomes shared -/
theorem Ok.letGo {i : Nat} {d : D} {a : Addr} (ok : Ok K W l g σ H) (h : l[i]? = some (some (.own d))) (e : σ[i]? = some (some (.ref a))) (ob : ObR K W H a d) (n1 : a ∉ W.mu) :
    Ok K (W.add a) (l.set i (some (.val d))) g σ H ∧ Fr W H (OwnA l σ) (W.add a) H (OwnA (l.set i (some (.val d))) σ) := by
  have L : Le W H (W.add a) H := Le.share
  have hl : i < l.length := (List.getElem?_eq_some_iff.mp h).1
  refine ⟨⟨⟨ok.rep.len, ok.rep.nd, fun n b x h1 h2 => (ok.rep.ob n b x h1 h2).le L (fun _ h => h), fun b hb => ?_, fun b hb => ?_, ok.rep.tabs⟩, ⟨by rw [List.length_set]; exact ok.loc.len, fun j e' h' => ?_, fun j e' h' => ?_, fun j k d1 d2 b h1 h2 h3 h4 => ?_⟩⟩,
    ⟨⟨[], by simp [Wd.add]⟩, fun _ h => .inl h, fun b hb => ?_, fun _ _ h _ _ _ _ => h, fun _ h => h, fun b hb => .inl (OwnA.unset (fun _ q => by cases q) hb), fun _ _ h _ _ _ => .inl h⟩⟩
  · rcases hb with hb | hb
    · exact ok.rep.dis b hb
    · rw [hb]; exact n1
  · rcases hb with hb | hb
    · exact ok.rep.fd b hb
    · rw [hb]
      exact ob.plain
  · by_cases hj : i = j
    · subst hj
      rw [List.getElem?_set_self hl] at h'
      cases h'
      exact ⟨_, e, ob.den⟩
    · rw [List.getElem?_set_ne hj] at h'
      obtain ⟨v, e1, hd⟩ := ok.loc.val j e' h'
      exact ⟨v, e1, hd.le L⟩
  · by_cases hj : i = j
    · subst hj
      rw [List.getElem?_set_self hl] at h'
      cases h'
    · rw [List.getElem?_set_ne hj] at h'
      obtain ⟨b, e1, ob', m1, m2⟩ := ok.loc.own j e' h'
      refine ⟨b, e1, ob'.le L (fun _ h => h), m1, fun hb => ?_⟩
      rcases hb with hb | hb
      · exact m2 hb
      · rw [hb] at e1
        exact hj (ok.loc.dist i j d e' a h h' e e1)
  · have ne : ∀ {q : Nat} {dq : D}, (l.set i (some (.val d)))[q]? = some (some (.own dq)) → l[q]? = some (some (.own dq)) := fun {q dq} hq => by
      by_cases hj : i = q
      · subst hj
        rw [List.getElem?_set_self hl] at hq
        cases hq
      · rw [List.getElem?_set_ne hj] at hq; exact hq
    exact ok.loc.dist j k d1 d2 b (ne h1) (ne h2) h3 h4
  · rcases hb with hb | hb
    · exact .inl hb
    · rw [hb]; exact .inr (.inr ⟨i, d, h, e⟩)
theorem se_var {i : Nat} {x : Str} {pos : Pos} (hN : X.N[i]? = some x) (hv : Vis X.env.scope x) (hd : (x == ("__debug__" : Str)) = false) (hcd : (x == ("__classdict__" : Str)) = false) : SE X (.Name x pos) (cVar i) := by
  intro σ H W l g Q ok p
  unfold cVar at p
  split at p
  · rename_i d e
    obtain ⟨v, e1, den⟩ := ok.loc.val i d e
    exact tW.of (pe_var hN hv hd hcd) ⟨v, e1, p v W H ok Fr.refl den⟩
  · rename_i d e
    obtain ⟨a, e1, ob, n1, n2⟩ := ok.loc.own i d e
    obtain ⟨ok', fr'⟩ := ok.letGo e e1 ob n1
    exact tW.of (pe_var hN hv hd hcd) ⟨.ref a, e1, p (.ref a) _ H ok' fr' ob.den⟩
  · exact False.elim p
theorem se_const {e : Expr} {v : V} {d : D} (h : PE X e (tC v)) (hd : ∀ W H, Den X.K W H v d) : SE X e (cC d) := by
  intro σ H W l g Q ok p
  exact tW.of h (p v W H ok Fr.refl (hd W H))
end

/-! ### operands -/
/-- the content that an operand has when it is used -/
inductive Con (K : PySem.W.Frag) (W : Wd) (H : Hp) (v : V) (d : D) : Prop
  | den (h : Den K W H v d)
  | ob {a : Addr} (e : v = .ref a) (h : ObR K W H a d)
def D.cont (g : Gs) : D → D
  | .ref n => match g[n]? with
    | some (.box d) => d
    | _ => .ref n
  | d => d
section
variable {K : PySem.W.Frag} {W : Wd} {H : Hp} {σ : L2.St} {l : Lc} {g : Gs} {v : V} {d : D}
theorem D.cont_ref_box {n : Nat} {d : D} (h : g[n]? = some (.box d)) : (D.ref n).cont g = d := by
  show (match g[n]? with | some (.box d) => d | _ => .ref n) = d
  rw [h]
theorem D.cont_ref_else {n : Nat} (h : ∀ d, g[n]? ≠ some (.box d)) : (D.ref n).cont g = .ref n := by
  show (match g[n]? with | some (.box d) => d | _ => .ref n) = .ref n
  split
  · rename_i d e; exact absurd e (h d)
  · rfl
theorem Con.of_den (R : Rep K W g H) (h : Den K W H v d) : Con K W H v (d.cont g) := by
  cases d with
  | ref n =>
    cases h with
    | ref h =>
      rename_i a
      by_cases hb : ∃ d, g[n]? = some (.box d)
      · obtain ⟨d', e'⟩ := hb
        rw [D.cont_ref_box e']
        have := R.ob n a _ h e'
        cases this with
        | box ob => exact .ob rfl ob
      · rw [D.cont_ref_else fun d q => hb ⟨d, q⟩]
        exact .den (.ref h)
  | _ => exact .den h
theorem Con.slot {i : Nat} {x : V} (ok : Ok K W l g σ H) (e : σ[i]? = some (some x)) (h : slotD l i = some d) : Con K W H x (d.cont g) := by
  unfold slotD at h
  split at h
  · rename_i d' e'
    cases h
    obtain ⟨v, e1, hd⟩ := ok.loc.val i _ e'
    rw [e] at e1; cases e1
    exact Con.of_den ok.rep hd
  · rename_i d' e'
    cases h
    obtain ⟨a, e1, ob, _⟩ := ok.loc.own i _ e'
    rw [e] at e1; cases e1
    have : d.cont g = d := by cases ob <;> rfl
    rw [this]
    exact .ob rfl ob
  · cases h
theorem Con.lst {ds : List D} (h : Con K W H v (.lst ds)) : ∃ a xs, v = .ref a ∧ SqL K H a xs ∧ DenL K W H xs ds := by
  cases h with
  | den h => cases h with | lst h1 h2 => exact ⟨_, _, rfl, h1.sq, h2⟩
  | ob e h => cases h with | lst h1 h2 => exact ⟨_, _, e, SqL.of h1, h2⟩
theorem Con.tupS {ds : List D} (h : Con K W H v (.tup ds)) : ∃ a xs, v = .ref a ∧ H a = some (.tup xs) ∧ DenL K W H xs ds := by
  cases h with
  | den h => cases h with | tup h1 h2 => exact ⟨_, _, rfl, h1, h2⟩
  | ob e h => cases h
theorem Con.tup {ds : List D} (h : Con K W H v (.tup ds)) : ∃ a xs, v = .ref a ∧ SqT K H a xs ∧ DenL K W H xs ds := by
  obtain ⟨a, xs, e, h1, h2⟩ := h.tupS
  exact ⟨a, xs, e, SqT.of h1, h2⟩
theorem Con.ctup {ds : List D} (h : Con K W H v (.ctup ds)) : ∃ a xs, v = .ref a ∧ SqT K H a xs ∧ DenL K W H xs ds := by
  cases h with
  | den h => cases h with | ctup h1 h2 => exact ⟨_, _, rfl, h1, h2⟩
  | ob e h => cases h
theorem Con.clst {ds : List D} (h : Con K W H v (.clst ds)) : ∃ a xs, v = .ref a ∧ SqC K W H a xs ∧ DenL K W H xs ds := by
  cases h with
  | den h => cases h with | clst h1 h2 => exact ⟨_, _, rfl, h1, h2⟩
  | ob e h => cases h
theorem Con.ftupS {ds : List D} (h : Con K W H v (.ftup ds)) : ∃ (a : Addr) (xs : List V) (o : Obj), v = .ref a ∧ H a = some (.frz o (.tup xs)) ∧ o.cls = .type "tuple" ∧ o.dict = none ∧ DenL K W H xs ds := by
  cases h with
  | den h => cases h with | ftup h1 h2 h3 h4 => exact ⟨_, _, _, rfl, h1, h2, h3, h4⟩
  | ob e h => cases h
theorem Con.ftup {ds : List D} (h : Con K W H v (.ftup ds)) : ∃ a xs, v = .ref a ∧ SqT K H a xs ∧ DenL K W H xs ds := by
  obtain ⟨a, xs, o, e, h1, h2, h3, h4⟩ := h.ftupS
  exact ⟨a, xs, e, .inl (.inr ⟨o, h1⟩), h4⟩
theorem Con.dcu {ps : List (D × D)} (h : Con K W H v (.dcu ps)) : ∃ a kvs, v = .ref a ∧ Rd H a (.dT kvs) ∧ DenU K W H kvs ps := by
  cases h with
  | den h => cases h with | dcu h1 h2 => exact ⟨_, _, rfl, h1.rd, h2⟩
  | ob e h => cases h with | dcu h1 h2 => exact ⟨_, _, e, .inl h1, h2⟩
theorem Con.dct {ps : List (D × D)} (h : Con K W H v (.dct ps)) : ∃ a kvs, v = .ref a ∧ Rd H a (.dK kvs) ∧ DenP K W H kvs ps := by
  cases h with
  | den h => cases h with | dct h1 h2 => exact ⟨_, _, rfl, h1.rd, h2⟩
  | ob e h => cases h with | dct h1 h2 => exact ⟨_, _, e, .inl h1, h2⟩
theorem Con.int {i : Int} (h : Con K W H v (.int i)) : v = .int i := by
  cases h with
  | den h => cases h; rfl
  | ob e h => cases h
theorem Con.str {x : Str} (h : Con K W H v (.str x)) : v = .str x := by
  cases h with
  | den h => cases h; rfl
  | ob e h => cases h
theorem Con.bl {b : Bool} (h : Con K W H v (.bl b)) : v = .bl b := by
  cases h with
  | den h => cases h; rfl
  | ob e h => cases h
theorem Con.non (h : Con K W H v .non) : v = .non := by
  cases h with
  | den h => cases h; rfl
  | ob e h => cases h
theorem Con.le {W1 : Wd} {H1 : Hp} (L : Le W H W1 H1) (ha : ∀ a o, v = .ref a → H a = some o → H1 a = some o) (h : Con K W H v d) : Con K W1 H1 v d := by
  cases h with
  | den h => exact .den (h.le L)
  | ob e h => exact .ob e (h.le L fun o => ha _ o e)
end

/-- what a pure operation hands back: a value as it stands, or a new object -/
inductive NewV (K : PySem.W.Frag) (W : Wd) : Hp → V → Hp → D → Bool → Prop
  | same {H : Hp} {v : V} {d : D} : Den K W H v d → NewV K W H v H d false
  | tup {H : Hp} {p : Addr} {xs : List V} {ds : List D} : H p = none → DenL K W H xs ds → NewV K W H (.ref p) (upd H p (.tup xs)) (.tup ds) false
  | lst {H : Hp} {p : Addr} {xs : List V} {ds : List D} : H p = none → DenL K W H xs ds → NewV K W H (.ref p) (upd H p (.lst xs)) (.lst ds) true
  | dct {H : Hp} {p : Addr} {kvs : List (Key × V)} {ps : List (D × D)} : H p = none → DenP K W H kvs ps → NewV K W H (.ref p) (upd H p (.dK kvs)) (.dct ps) true
  | dcu {H : Hp} {p : Addr} {kvs : List (List Key × V)} {ps : List (D × D)} : H p = none → DenU K W H kvs ps → NewV K W H (.ref p) (upd H p (.dT kvs)) (.dcu ps) true
  | ftup {H : Hp} {p : Addr} {xs : List V} {ds : List D} {o : Obj} : H p = none → o.cls = .type "tuple" → o.dict = none → DenL K W H xs ds → NewV K W H (.ref p) (upd H p (.frz o (.tup xs))) (.ftup ds) false
  | mid {H : Hp} {p : Addr} {o : HO} {v : V} {H' : Hp} {d : D} {f : Bool} : H p = none → NewV K W (upd H p o) v H' d f → NewV K W H v H' d f
section
variable {K : PySem.W.Frag} {W : Wd} {H : Hp} {σ : L2.St} {l : Lc} {g : Gs}
theorem NewV.post {v : V} {H' : Hp} {d : D} {f : Bool} {Q : VK} (ok : Ok K W l g σ H) (n : NewV K W H v H' d f) (p : EPost K W H σ l (.ok d f l g) Q) : Q v H' := by
  induction n with
  | same h => exact p _ W _ ok Fr.refl h
  | tup hp h => exact p _ W _ (ok.alloc hp) (Fr.alloc hp) (.tup upd_same (DenL.le (Le.alloc hp) _ h))
  | ftup hp h1 h2 h => exact p _ W _ (ok.alloc hp) (Fr.alloc hp) (.ftup upd_same h1 h2 (DenL.le (Le.alloc hp) _ h))
  | lst hp h =>
    obtain ⟨n1, n2, n3⟩ := ok.outside hp
    exact p _ W _ (ok.alloc hp) (Fr.alloc hp) ⟨_, rfl, .lst upd_same (DenL.le (Le.alloc hp) _ h), n1, n2, n3, .inl hp⟩
  | dct hp h =>
    obtain ⟨n1, n2, n3⟩ := ok.outside hp
    exact p _ W _ (ok.alloc hp) (Fr.alloc hp) ⟨_, rfl, .dct upd_same (DenP.le (Le.alloc hp) _ h), n1, n2, n3, .inl hp⟩
  | dcu hp h =>
    obtain ⟨n1, n2, n3⟩ := ok.outside hp
    exact p _ W _ (ok.alloc hp) (Fr.alloc hp) ⟨_, rfl, .dcu upd_same (DenU.le (Le.alloc hp) _ h), n1, n2, n3, .inl hp⟩
  | mid hp n ih => exact ih (ok.alloc hp) (EPost.shift (Fr.alloc hp) p)
end
/-- a result of a pure operation: shared, new, or none -/
inductive PR where
  | sh (d : D) | nw (d : D) | no
def lift (o : PR) : Sm := fun l g => match o with
  | .sh d => .ok d false l g
  | .nw d => .ok d true l g
  | .no => .no
def Out (K : PySem.W.Frag) (W : Wd) (H : Hp) (o : PR) (Q : VK) : Prop := match o with
  | .sh d => ∀ v H', NewV K W H v H' d false → Q v H'
  | .nw d => ∀ v H', NewV K W H v H' d true → Q v H'
  | .no => False
theorem lift_out {K : PySem.W.Frag} {W : Wd} {H : Hp} {σ : L2.St} {l : Lc} {g : Gs} {o : PR} {Q : VK} (ok : Ok K W l g σ H) (p : EPost K W H σ l (lift o l g) Q) : Out K W H o Q := by
  cases o with
  | sh d => exact fun v H' n => n.post ok p
  | nw d => exact fun v H' n => n.post ok p
  | no => exact False.elim p

/-- an operand: an expression, or a name whose content is only looked at -/
inductive Opd where
  | ev (m : Sm) | pk (i : Nat)
/-- a one-place pure operation -/
def cU (f : D → PR) : Opd → Sm
  | .ev m => fun l g => (m l g).bind fun x _ l g => lift (f (x.cont g)) l g
  | .pk i => fun l g => match slotD l i with
    | some x => lift (f (x.cont g)) l g
    | none => .no
def c2 (f : D → D → PR) : Opd → Opd → Sm
  | .ev a, .ev b => fun l g => (a l g).bind fun x _ l g => (b l g).bind fun y _ l g => lift (f (x.cont g) (y.cont g)) l g
  | .pk i, .ev b => fun l g => match slotD l i with
    | none => .no
    | some _ => (b l g).bind fun y _ l g => match slotD l i with
      | some x => lift (f (x.cont g) (y.cont g)) l g
      | none => .no
  | .ev a, .pk j => fun l g => (a l g).bind fun x _ l g => match slotD l j with
    | some y => lift (f (x.cont g) (y.cont g)) l g
    | none => .no
  | .pk i, .pk j => fun l g => match slotD l i, slotD l j with
    | some x, some y => lift (f (x.cont g) (y.cont g)) l g
    | _, _ => .no
/-- an operand's expression -/
inductive SO (X : Cx) (e : Expr) : Opd → Prop
  | ev {m : Sm} (h : SE X e m) : SO X e (.ev m)
  | pk {i : Nat} (h : PE X e (tVar i)) : SO X e (.pk i)
section
variable {X : Cx} {e a b : Expr}
theorem slot_some {K : PySem.W.Frag} {W : Wd} {l : Lc} {σ : L2.St} {H : Hp} {i : Nat} {d : D} (R : RepL K W l σ H) (h : slotD l i = some d) : ∃ v, σ[i]? = some (some v) := by
  unfold slotD at h
  split at h
  · rename_i d' e; obtain ⟨v, e1, _⟩ := R.val i _ e; exact ⟨v, e1⟩
  · rename_i d' e; obtain ⟨a, e1, _⟩ := R.own i _ e; exact ⟨_, e1⟩
  · cases h
theorem su (o : Opd) {f : D → PR} (h : SO X e o) {σ : L2.St} {H : Hp} {W : Wd} {l : Lc} {g : Gs} {Q R : VK} (ok : Ok X.K W l g σ H) (p : EPost X.K W H σ l (cU f o l g) Q)
    (go : ∀ v d W1 H1, Con X.K W1 H1 v d → Out X.K W1 H1 (f d) Q → R v H1) : ∃ t, PE X e t ∧ t σ H R := by
  cases h with
  | ev h =>
    refine ⟨_, pe_w, h.bindV ok p fun d fl l1 g1 v W1 H1 p1 ok1 fr1 le1 den => ?_⟩
    exact go v _ W1 H1 (Con.of_den ok1.rep den) (lift_out ok1 p1)
  | @pk i h =>
    simp only [cU] at p
    cases e1 : slotD l i with
    | none => rw [e1] at p; exact False.elim p
    | some x =>
      rw [e1] at p
      obtain ⟨v, ev⟩ := slot_some ok.loc e1
      exact ⟨_, h, v, ev, go v _ W H (Con.slot ok ev e1) (lift_out ok p)⟩
theorem s2 (oa ob : Opd) {f : D → D → PR} (ha : SO X a oa) (hb : SO X b ob) {σ : L2.St} {H : Hp} {W : Wd} {l : Lc} {g : Gs} {Q : VK} {R : V → V → Hp → Prop} (ok : Ok X.K W l g σ H) (p : EPost X.K W H σ l (c2 f oa ob l g) Q)
    (go : ∀ v u x y W2 H2, Con X.K W2 H2 v x → Con X.K W2 H2 u y → Out X.K W2 H2 (f x y) Q → R v u H2) : ∃ ta tb, PE X a ta ∧ PE X b tb ∧ ta σ H fun x H1 => tb σ H1 fun y H2 => R x y H2 := by
  cases ha with
  | ev ha =>
    cases hb with
    | ev hb =>
      refine ⟨_, _, pe_w, pe_w, ha.bindV ok p fun d fl l1 g1 v W1 H1 p1 ok1 fr1 le1 den => hb.bindV ok1 p1 fun d2 fl2 l2 g2 u W2 H2 p2 ok2 fr2 le2 den2 => ?_⟩
      exact go v u _ _ W2 H2 (Con.of_den ok2.rep (den.le le2)) (Con.of_den ok2.rep den2) (lift_out ok2 p2)
    | @pk j hb =>
      refine ⟨_, _, pe_w, hb, ha.bindV ok p fun d fl l1 g1 v W1 H1 p1 ok1 fr1 le1 den => ?_⟩
      cases e1 : slotD l1 j with
      | none => simp only [e1] at p1; exact False.elim p1
      | some y =>
        simp only [e1] at p1
        obtain ⟨u, eu⟩ := slot_some ok1.loc e1
        exact ⟨u, eu, go v u _ _ W1 H1 (Con.of_den ok1.rep den) (Con.slot ok1 eu e1) (lift_out ok1 p1)⟩
  | @pk i ha =>
    cases hb with
    | ev hb =>
      simp only [c2] at p
      cases e0 : slotD l i with
      | none => rw [e0] at p; exact False.elim p
      | some x0 =>
        rw [e0] at p
        obtain ⟨v, ev⟩ := slot_some ok.loc e0
        refine ⟨_, _, ha, pe_w, v, ev, hb.bindV ok p fun d fl l1 g1 u W1 H1 p1 ok1 fr1 le1 den => ?_⟩
        cases e1 : slotD l1 i with
        | none => simp only [e1] at p1; exact False.elim p1
        | some x =>
          simp only [e1] at p1
          exact go v u _ _ W1 H1 (Con.slot ok1 ev e1) (Con.of_den ok1.rep den) (lift_out ok1 p1)
    | @pk j hb =>
      simp only [c2] at p
      cases e0 : slotD l i with
      | none => rw [e0] at p; exact False.elim p
      | some x =>
        cases e1 : slotD l j with
        | none => rw [e0, e1] at p; exact False.elim p
        | some y =>
          rw [e0, e1] at p
          obtain ⟨v, ev⟩ := slot_some ok.loc e0
          obtain ⟨u, eu⟩ := slot_some ok.loc e1
          exact ⟨_, _, ha, hb, v, ev, u, eu, go v u _ _ W H (Con.slot ok ev e0) (Con.slot ok eu e1) (lift_out ok p)⟩

/-- a pure operation's rule -/
def P2 (K : PySem.W.Frag) (r : R2) (f : D → D → PR) : Prop := ∀ (v u : V) (x y : D) (W : Wd) (H : Hp) (Q : VK), Con K W H v x → Con K W H u y → Out K W H (f x y) Q → r v u H Q
theorem se_bin {op : Operator} {r : R2} {f : D → D → PR} {oa ob : Opd} {pos : Pos} (ho : OpR X (binaryOp op) r) (hf : P2 X.K r f) (ha : SO X a oa) (hb : SO X b ob) : SE X (.BinOp a op b pos) (c2 f oa ob) := by
  intro σ H W l g Q ok p
  obtain ⟨ta, tb, pa, pb, t⟩ := s2 (R := fun x y H2 => r x y H2 Q) oa ob ha hb ok p fun v u x y W2 H2 c1 c2 o => hf v u x y W2 H2 Q c1 c2 o
  exact tW.of (pe_op ho pa pb) t
theorem se_cmp {op : CmpOp} {r : R2} {f : D → D → PR} {oa ob : Opd} {pos : Pos} (ho : OpR X (compareOp op) r) (hm : behindInMarks op b = false) (hf : P2 X.K r f) (ha : SO X a oa) (hb : SO X b ob) : SE X (.Compare a [op] [b] pos) (c2 f oa ob) := by
  intro σ H W l g Q ok p
  obtain ⟨ta, tb, pa, pb, t⟩ := s2 (R := fun x y H2 => r x y H2 Q) oa ob ha hb ok p fun v u x y W2 H2 c1 c2 o => hf v u x y W2 H2 Q c1 c2 o
  exact tW.of (pe_cmpR ho pa pb hm) t
theorem se_ix {r : R2} {f : D → D → PR} {oa ob : Opd} {pos : Pos} (ho : IxR X r) (hs : PlainIx b) (hf : P2 X.K r f) (ha : SO X a oa) (hb : SO X b ob) : SE X (.Subscript a b pos) (c2 f oa ob) := by
  intro σ H W l g Q ok p
  obtain ⟨ta, tb, pa, pb, t⟩ := s2 (R := fun x y H2 => r x y H2 Q) oa ob ha hb ok p fun v u x y W2 H2 c1 c2 o => hf v u x y W2 H2 Q c1 c2 o
  exact tW.of (pe_ix ho pa pb hs) t
end
end Y
namespace Y
variable [TabC]
open PySem L2

/-! ### data of D as the library's data -/
mutual
def D.py : D → Option PyData
  | .non => some .none
  | .bl b => some (.bool b)
  | .int i => some (.int i)
  | .str x => some (.str x)
  | .tup ds => (D.pyL ds).map .tuple
  | .lst ds => (D.pyL ds).map .list
  | .ftup ds => (D.pyL ds).map .tuple
  | _ => none
def D.pyL : List D → Option (List PyData)
  | [] => some []
  | d :: ds => match D.py d, D.pyL ds with
    | some p, some ps => some (p :: ps)
    | _, _ => none
end
section
variable {K : PySem.W.Frag} {W : Wd} {H : Hp}
mutual
theorem Den.dp : ∀ {v : V} (d : D) (p : PyData), Den K W H v d → d.py = some p → Dp K H v p
  | _, .non, p, h, e => by cases h; simp [D.py] at e; subst e; exact .non
  | _, .bl b, p, h, e => by cases h; simp [D.py] at e; subst e; exact .bl b
  | _, .int i, p, h, e => by cases h; simp [D.py] at e; subst e; exact .int i
  | _, .str x, p, h, e => by cases h; simp [D.py] at e; subst e; exact .str x
  | _, .tup ds, p, h, e => by
    cases h with
    | tup h1 h2 =>
      simp only [D.py, Option.map_eq_some_iff] at e
      obtain ⟨ps, e1, rfl⟩ := e
      exact .tup (SqT.of h1) (DenL.dp ds ps h2 e1)
  | _, .lst ds, p, h, e => by
    cases h with
    | lst h1 h2 =>
      simp only [D.py, Option.map_eq_some_iff] at e
      obtain ⟨ps, e1, rfl⟩ := e
      exact .lst h1.sq (DenL.dp ds ps h2 e1)
  | _, .dct ps, p, h, e => by simp [D.py] at e
  | _, .set ds, p, h, e => by simp [D.py] at e
  | _, .dcu ds, p, h, e => by simp [D.py] at e
  | _, .ctup ds, p, h, e => by simp [D.py] at e
  | _, .clst ds, p, h, e => by simp [D.py] at e
  | _, .ftup ds, p, h, e => by
    cases h with
    | ftup h1 h2 h3 h4 =>
      simp only [D.py, Option.map_eq_some_iff] at e
      obtain ⟨ps, e1, rfl⟩ := e
      exact .tup (.inl (.inr ⟨_, h1⟩)) (DenL.dp ds ps h4 e1)
  | _, .ref n, p, h, e => by simp [D.py] at e
theorem DenL.dp : ∀ {vs : List V} (ds : List D) (ps : List PyData), DenL K W H vs ds → D.pyL ds = some ps → DpAll K H vs ps
  | _, [], ps, h, e => by cases h; simp [D.pyL] at e; subst e; exact .nil
  | _, d :: ds, ps, h, e => by
    cases h with
    | cons h1 h2 =>
      simp only [D.pyL] at e
      split at e
      · rename_i p ps' e1 e2
        cases e
        exact .cons (Den.dp d p h1 e1) (DenL.dp ds ps' h2 e2)
      · cases e
end
theorem Con.dp {v : V} {d : D} {p : PyData} (h : Con K W H v d) (e : d.py = some p) : Dp K H v p := by
  cases h with
  | den h => exact h.dp d p e
  | ob ev h =>
    cases h with
    | lst h1 h2 =>
      simp only [D.py, Option.map_eq_some_iff] at e
      obtain ⟨ps, e1, rfl⟩ := e
      subst ev
      exact .lst (SqL.of h1) (DenL.dp _ ps h2 e1)
    | dct h1 h2 => simp [D.py] at e
    | dcu h1 h2 => simp [D.py] at e
end

/-! ### list + list -/
section
variable {X : Cx}
def rCatL (K : PySem.W.Frag) : R2 := fun x y H Q => ∃ l b xs zs, x = .ref l ∧ y = .ref b ∧ SqL K H l xs ∧ SqL K H b zs ∧ xs.length + zs.length ≤ sizeLine ∧ ∀ p, H p = none → Q (.ref p) (upd H p (.lst (xs ++ zs)))
theorem op_catL : OpR X (binaryOp .Add) (rCatL X.K) := by
  intro pins s σ H x y v u Q I rx ry h
  obtain ⟨l, b, xs, zs, rfl, rfl, hH, hB, hz, q⟩ := h
  cases rx
  cases ry
  obtain ⟨its, r, ⟨⟨c1, d1, t1, s1⟩, n1, e1, ec1, ed1, et1⟩, z1⟩ := I.list hH
  obtain ⟨its2, r2, ⟨⟨c2, d2, t2, s2⟩, n2, e2, ec2, ed2, et2⟩, z2⟩ := I.list hB
  simp only at ec1 ed1 et1 ec2 ed2 et2
  subst ec1 ed1 et1 ec2 ed2 et2
  have hl := r.length
  have hl2 := r2.length
  have ea : its.toArray ++ its2.toArray = (its ++ its2).toArray := by simp
  refine PySem.concat_meets ⟨_, e1, rfl⟩ ⟨_, e2, rfl⟩ PySem.noFill_list_add PySem.seq_list_add PySem.F.slot_list_add PySem.F.entry_list_add (PySem.F.args_list_add_2 _ _)
    (PyProof.Rows.list_addW l b its.toArray its2.toArray n1 n2 none none s1 s2 (by rw [List.size_toArray, List.size_toArray]; omega)) ⟨e1, e2, ?_⟩
  rw [ea]
  exact ⟨.ref _, _, I.lnew (t' := s.toks) (r.append r2) (by rw [List.length_append]; omega), rfl, q _ I.fresh⟩
/-- text * int -/
def repS (x : Str) (n : Int) : Str := ⟨((List.replicate n.toNat x.cps.toList).flatten).toArray⟩
end

/-! ### arithmetic -/
def fitsMul (a b : Int) : Bool := (decide (-(2 ^ 64) < a) && decide (a < 2 ^ 64)) || (decide (-(2 ^ 64) < b) && decide (b < 2 ^ 64))
def dAdd : D → D → PR
  | .int a, .int b => .sh (.int (a + b))
  | .str a, .str b => if a.length + b.length ≤ sizeLine then .sh (.str (a ++ b)) else .no
  | .tup a, .tup b => if a.length + b.length ≤ sizeLine then .sh (.tup (a ++ b)) else .no
  | .lst a, .lst b => if a.length + b.length ≤ sizeLine then .nw (.lst (a ++ b)) else .no
  | .ftup a, .tup b => if a.length + b.length ≤ sizeLine ∧ a ≠ [] ∧ b ≠ [] then .sh (.tup (a ++ b)) else .no
  | .ftup a, .ftup b => if a.length + b.length ≤ sizeLine ∧ a ≠ [] ∧ b ≠ [] then .sh (.tup (a ++ b)) else .no
  | .tup a, .ftup b => if a.length + b.length ≤ sizeLine ∧ a ≠ [] ∧ b ≠ [] then .sh (.tup (a ++ b)) else .no
  | _, _ => .no
def dSub : D → D → PR
  | .int a, .int b => .sh (.int (a - b))
  | _, _ => .no
def dMul : D → D → PR
  | .int a, .int b => if fitsMul a b then .sh (.int (a * b)) else .no
  | _, _ => .no
def dFdiv : D → D → PR
  | .int a, .int b => if 0 < b ∧ b < 1073741824 then .sh (.int (a / b)) else .no
  | _, _ => .no
def dMod : D → D → PR
  | .int a, .int b => if 0 < b then .sh (.int (a % b)) else .no
  | _, _ => .no
def dPow : D → D → PR
  | .int a, .int b => if 0 ≤ b ∧ b ≤ 1000000 ∧ a.natAbs < 2 ^ 64 then .sh (.int (a ^ b.toNat)) else .no
  | _, _ => .no
theorem Out.int {K : PySem.W.Frag} {W : Wd} {H : Hp} {i : Int} {Q : VK} (o : Out K W H (.sh (.int i)) Q) : Q (.int i) H := o _ _ (.same (.int i))
theorem Out.str {K : PySem.W.Frag} {W : Wd} {H : Hp} {i : Str} {Q : VK} (o : Out K W H (.sh (.str i)) Q) : Q (.str i) H := o _ _ (.same (.str i))
theorem Out.bl {K : PySem.W.Frag} {W : Wd} {H : Hp} {i : Bool} {Q : VK} (o : Out K W H (.sh (.bl i)) Q) : Q (.bl i) H := o _ _ (.same (.bl i))
theorem Out.non {K : PySem.W.Frag} {W : Wd} {H : Hp} {Q : VK} (o : Out K W H (.sh .non) Q) : Q .non H := o _ _ (.same .non)
theorem Out.ite {K : PySem.W.Frag} {W : Wd} {H : Hp} {Q : VK} {c : Prop} [Decidable c] {o : PR} (h : Out K W H (if c then o else .no) Q) : c ∧ Out K W H o Q := by
  by_cases hc : c
  · rw [if_pos hc] at h; exact ⟨hc, h⟩
  · rw [if_neg hc] at h; exact False.elim h
section
variable {X : Cx} {K : PySem.W.Frag}
def rAdd (K : PySem.W.Frag) : R2 := fun x y H Q => ((rI0 fun i j => .int (i + j)) x y H Q ∨ (∃ i j, x = .str i ∧ y = .str j ∧ i.length + j.length ≤ sizeLine ∧ Q (.str (i ++ j)) H)) ∨ (rCatA K x y H Q ∨ rCatL K x y H Q)
theorem op_addA : OpR X (binaryOp .Add) (rAdd X.K) := (op_add.or op_add_str).or (op_catA.or op_catL)
theorem p2_add : P2 K (rAdd K) dAdd := by
  intro v u x y W H Q c1 c2 o
  unfold dAdd at o
  split at o
  · cases c1.int; cases c2.int
    exact .inl (.inl ⟨_, _, rfl, rfl, o.int⟩)
  · cases c1.str; cases c2.str
    obtain ⟨h, o⟩ := o.ite
    exact .inl (.inr ⟨_, _, rfl, rfl, h, o.str⟩)
  · rename_i a b
    obtain ⟨h, o⟩ := o.ite
    obtain ⟨p, xs, rfl, hp, hx⟩ := c1.tupS
    obtain ⟨q, ys, rfl, hq, hy⟩ := c2.tupS
    refine .inr (.inl ⟨p, q, xs, ys, rfl, rfl, SqT.of hp, SqT.of hq, by rw [hx.length, hy.length]; exact h, fun e => ?_, fun _ e => ?_, fun _ _ r hr => o _ _ (.tup hr (hx.append hy))⟩)
    · subst e; cases hx; exact o _ _ (.same (.tup hq hy))
    · subst e; cases hy; rw [List.append_nil] at o; exact o _ _ (.same (.tup hp hx))
  · obtain ⟨h, o⟩ := o.ite
    obtain ⟨p, xs, rfl, hp, hx⟩ := c1.lst
    obtain ⟨q, ys, rfl, hq, hy⟩ := c2.lst
    exact .inr (.inr ⟨p, q, xs, ys, rfl, rfl, hp, hq, by rw [hx.length, hy.length]; exact h, fun r hr => o _ _ (.lst hr (hx.append hy))⟩)
  · obtain ⟨⟨h, ha, hb⟩, o⟩ := o.ite
    obtain ⟨p, xs, rfl, hp, hx⟩ := c1.ftup
    obtain ⟨q, ys, rfl, hq, hy⟩ := c2.tupS
    refine .inr (.inl ⟨p, q, xs, ys, rfl, rfl, hp, SqT.of hq, by rw [hx.length, hy.length]; exact h, fun e => ?_, fun _ e => ?_, fun _ _ r hr => o _ _ (.tup hr (hx.append hy))⟩)
    · subst e; cases hx; exact absurd rfl ha
    · subst e; cases hy; exact absurd rfl hb
  · obtain ⟨⟨h, ha, hb⟩, o⟩ := o.ite
    obtain ⟨p, xs, rfl, hp, hx⟩ := c1.ftup
    obtain ⟨q, ys, rfl, hq, hy⟩ := c2.ftup
    refine .inr (.inl ⟨p, q, xs, ys, rfl, rfl, hp, hq, by rw [hx.length, hy.length]; exact h, fun e => ?_, fun _ e => ?_, fun _ _ r hr => o _ _ (.tup hr (hx.append hy))⟩)
    · subst e; cases hx; exact absurd rfl ha
    · subst e; cases hy; exact absurd rfl hb
  · obtain ⟨⟨h, ha, hb⟩, o⟩ := o.ite
    obtain ⟨p, xs, rfl, hp, hx⟩ := c1.tupS
    obtain ⟨q, ys, rfl, hq, hy⟩ := c2.ftup
    refine .inr (.inl ⟨p, q, xs, ys, rfl, rfl, SqT.of hp, hq, by rw [hx.length, hy.length]; exact h, fun e => ?_, fun _ e => ?_, fun _ _ r hr => o _ _ (.tup hr (hx.append hy))⟩)
    · subst e; cases hx; exact absurd rfl ha
    · subst e; cases hy; exact absurd rfl hb
  · exact False.elim o
theorem p2_sub : P2 K (rI0 fun i j => .int (i - j)) dSub := by
  intro v u x y W H Q c1 c2 o
  unfold dSub at o
  split at o
  · cases c1.int; cases c2.int
    exact ⟨_, _, rfl, rfl, o.int⟩
  · exact False.elim o
theorem p2_fdiv : P2 K (rI CDiv fun i j => .int (i / j)) dFdiv := by
  intro v u x y W H Q c1 c2 o
  unfold dFdiv at o
  split at o
  · cases c1.int; cases c2.int
    obtain ⟨h, o⟩ := o.ite
    exact ⟨_, _, rfl, rfl, h, o.int⟩
  · exact False.elim o
theorem p2_mod : P2 K (rI (fun _ j => 0 < j) fun i j => .int (i % j)) dMod := by
  intro v u x y W H Q c1 c2 o
  unfold dMod at o
  split at o
  · cases c1.int; cases c2.int
    obtain ⟨h, o⟩ := o.ite
    exact ⟨_, _, rfl, rfl, h, o.int⟩
  · exact False.elim o
theorem p2_pow : P2 K (rI CPow fun i j => .int (i ^ j.toNat)) dPow := by
  intro v u x y W H Q c1 c2 o
  unfold dPow at o
  split at o
  · cases c1.int; cases c2.int
    obtain ⟨h, o⟩ := o.ite
    exact ⟨_, _, rfl, rfl, h, o.int⟩
  · exact False.elim o
end
end Y
namespace Y
variable [TabC]
open PySem L2

/-! ### dicts by content -/
def keyOfD : D → Option Key
  | .int i => some (.inl i)
  | .str x => some (.inr x)
  | _ => none
def keysOfD : List D → Option (List Key)
  | [] => some []
  | d :: ds => match keyOfD d, keysOfD ds with
    | some k, some ks => some (k :: ks)
    | _, _ => none
def tkOf : D → Option (List Key)
  | .tup ds => keysOfD ds
  | _ => none
/-- d[k] = v, the entry stays at its place -/
def putD (ps : List (D × D)) (k v : D) : List (D × D) :=
  if (ps.any fun p => decide (p.1 = k)) = true then ps.map (fun p => if p.1 = k then (p.1, v) else p) else ps ++ [(k, v)]
def getD (ps : List (D × D)) (k : D) : Option D := (ps.find? fun p => decide (p.1 = k)).map (·.2)
theorem keyD_of {d : D} {k : Key} (e : keyOfD d = some k) : d = keyD k := by
  cases d <;> simp [keyOfD] at e <;> subst e <;> rfl
theorem keyD_inj {k k' : Key} (e : keyD k = keyD k') : k = k' := by
  cases k <;> cases k' <;> simp [keyD] at e <;> simp [e]
theorem keysD_of : ∀ {ds : List D} {ks : List Key}, keysOfD ds = some ks → ds = ks.map keyD
  | [], ks, e => by simp [keysOfD] at e; subst e; rfl
  | d :: ds, ks, e => by
    simp only [keysOfD] at e
    split at e
    · rename_i k ks' e1 e2
      cases e
      rw [keyD_of e1, keysD_of e2]; rfl
    · cases e
theorem keysD_inj : ∀ {ks ks' : List Key}, ks.map keyD = ks'.map keyD → ks = ks'
  | [], [], _ => rfl
  | [], _ :: _, e => by simp at e
  | _ :: _, [], e => by simp at e
  | k :: ks, k' :: ks', e => by
    simp only [List.map_cons, List.cons.injEq] at e
    rw [keyD_inj e.1, keysD_inj e.2]
theorem getD_nil {k : D} : getD [] k = none := rfl
theorem getD_cons {p : D × D} {ps : List (D × D)} {k : D} : getD (p :: ps) k = if p.1 = k then some p.2 else getD ps k := by
  unfold getD
  rw [List.find?_cons]
  by_cases h : p.1 = k
  · simp [h]
  · simp [h]
section
variable {K : PySem.W.Frag} {W W1 : Wd} {H H1 : Hp}
theorem keyOfD_den {v : V} {d : D} {k : Key} (h : Den K W H v d) (e : keyOfD d = some k) : v = kV k := by
  cases d with
  | int i => cases h; cases e; rfl
  | str x => cases h; cases e; rfl
  | _ => cases e
theorem Den.keyD (k : Key) : Den K W H (kV k) (keyD k) := by
  cases k with
  | inl i => exact .int i
  | inr x => exact .str x
theorem DenL.keys : ∀ {ks : List Key} {xs : List V}, DenL K W H xs (ks.map keyD) → xs = ks.map kV
  | [], _, h => by cases h; rfl
  | k :: ks, _, h => by
    cases h with
    | cons h1 h2 =>
      rw [DenL.keys h2, List.map_cons]
      cases k with
      | inl i => cases h1; rfl
      | inr x => cases h1; rfl
theorem DenL.ofKeys : ∀ (ks : List Key), DenL K W H (ks.map kV) (ks.map keyD)
  | [] => .nil
  | k :: ks => .cons (Den.keyD k) (DenL.ofKeys ks)
theorem key_iff {k k' : Key} {dk dk' : D} (h : Den K W H (kV k) dk) (h' : Den K W H (kV k') dk') : k = k' ↔ dk = dk' := by
  cases k with
  | inl i => cases k' with
    | inl j => cases h; cases h'; simp
    | inr y => cases h; cases h'; simp
  | inr x => cases k' with
    | inl j => cases h; cases h'; simp
    | inr y => cases h; cases h'; simp
theorem DenP.any {kvs : List (Key × V)} {ps : List (D × D)} {k : Key} {dk : D} (hk : Den K W H (kV k) dk) (h : DenP K W H kvs ps) : (kvs.any fun kv => decide (kv.1 = k)) = (ps.any fun p => decide (p.1 = dk)) := by
  induction ps generalizing kvs with
  | nil => cases h; rfl
  | cons p ps ih =>
    cases h with
    | cons h1 h2 h3 => rw [List.any_cons, List.any_cons, ih h3, decide_eq_decide.mpr (key_iff h1 hk)]
theorem DenP.app {kvs ks : List (Key × V)} {ps qs : List (D × D)} (h : DenP K W H kvs ps) (h' : DenP K W H ks qs) : DenP K W H (kvs ++ ks) (ps ++ qs) := by
  induction ps generalizing kvs with
  | nil => cases h; exact h'
  | cons p ps ih => cases h with | cons h1 h2 h3 => exact .cons h1 h2 (ih h3)
theorem DenP.map {kvs : List (Key × V)} {ps : List (D × D)} {k : Key} {dk d : D} {v : V} (hk : Den K W H (kV k) dk) (hv : Den K W H v d) (h : DenP K W H kvs ps) :
    DenP K W H (kvs.map fun kv => if kv.1 = k then (kv.1, v) else kv) (ps.map fun p => if p.1 = dk then (p.1, d) else p) := by
  induction ps generalizing kvs with
  | nil => cases h; exact .nil
  | cons p ps ih =>
    cases h with
    | @cons k0 v0 _ _ _ _ h1 h2 h3 =>
      rw [List.map_cons, List.map_cons]
      by_cases e : k0 = k
      · have e' := (key_iff h1 hk).mp e
        simp only [e, e', if_true]
        exact .cons hk hv (ih h3)
      · have e' : ¬ _ := fun z => e ((key_iff h1 hk).mpr z)
        simp only [e, e', if_false]
        exact .cons h1 h2 (ih h3)
theorem DenP.put {kvs : List (Key × V)} {ps : List (D × D)} {k : Key} {dk d : D} {v : V} (hk : Den K W H (kV k) dk) (hv : Den K W H v d) (h : DenP K W H kvs ps) : DenP K W H (putK kvs k v) (putD ps dk d) := by
  unfold putK putD
  rw [h.any hk]
  by_cases c : (ps.any fun p => decide (p.1 = dk)) = true
  · rw [if_pos c, if_pos c]; exact h.map hk hv
  · rw [if_neg c, if_neg c]; exact h.app (.cons hk hv .nil)
theorem DenP.merge {more : List (Key × V)} {qs : List (D × D)} (h : DenP K W H more qs) : ∀ {kvs : List (Key × V)} {ps : List (D × D)}, DenP K W H kvs ps → DenP K W H (mergeK kvs more) (qs.foldl (fun acc p => putD acc p.1 p.2) ps) := by
  induction qs generalizing more with
  | nil => cases h; exact fun h' => h'
  | cons q qs ih =>
    cases h with
    | cons h1 h2 h3 => exact fun h' => ih h3 (h'.put h1 h2)
theorem DenP.get {kvs : List (Key × V)} {ps : List (D × D)} {k : Key} {dk : D} (hk : Den K W H (kV k) dk) (h : DenP K W H kvs ps) : (valV kvs k = none ∧ getD ps dk = none) ∨ ∃ v d, valV kvs k = some v ∧ getD ps dk = some d ∧ Den K W H v d := by
  induction ps generalizing kvs with
  | nil => cases h; exact .inl ⟨rfl, rfl⟩
  | cons p ps ih =>
    cases h with
    | @cons k0 v0 _ dk0 d0 _ h1 h2 h3 =>
      by_cases e : k0 = k
      · have e' := (key_iff h1 hk).mp e
        refine .inr ⟨v0, d0, valV_pos e, ?_, h2⟩
        rw [getD_cons, if_pos e']
      · have e' : ¬ dk0 = dk := fun z => e ((key_iff h1 hk).mpr z)
        rw [valV_neg (p := (k0, v0)) e, getD_cons, if_neg e']
        exact ih h3
theorem DenP.len {kvs : List (Key × V)} {ps : List (D × D)} (h : DenP K W H kvs ps) : kvs.length = ps.length := by
  induction ps generalizing kvs with
  | nil => cases h; rfl
  | cons p ps ih => cases h with | cons _ _ h => simp [ih h]
/-! tuple keys -/
theorem DenU.any {kvs : List (List Key × V)} {ps : List (D × D)} (k : List Key) (h : DenU K W H kvs ps) : (kvs.any fun kv => decide (kv.1 = k)) = (ps.any fun p => decide (p.1 = .tup (k.map keyD))) := by
  induction ps generalizing kvs with
  | nil => cases h; rfl
  | cons p ps ih =>
    cases h with
    | @cons k0 v0 _ _ _ h2 h3 =>
      rw [List.any_cons, List.any_cons, ih h3]
      congr 1
      refine decide_eq_decide.mpr ⟨fun e => congrArg (fun k : List Key => D.tup (k.map keyD)) e, fun e => keysD_inj (by simpa using e)⟩
theorem DenU.app {kvs ks : List (List Key × V)} {ps qs : List (D × D)} (h : DenU K W H kvs ps) (h' : DenU K W H ks qs) : DenU K W H (kvs ++ ks) (ps ++ qs) := by
  induction ps generalizing kvs with
  | nil => cases h; exact h'
  | cons p ps ih => cases h with | cons h1 h2 => exact .cons h1 (ih h2)
theorem DenU.map {kvs : List (List Key × V)} {ps : List (D × D)} {d : D} {v : V} (k : List Key) (hv : Den K W H v d) (h : DenU K W H kvs ps) :
    DenU K W H (kvs.map fun kv => if kv.1 = k then (kv.1, v) else kv) (ps.map fun p => if p.1 = .tup (k.map keyD) then (p.1, d) else p) := by
  induction ps generalizing kvs with
  | nil => cases h; exact .nil
  | cons p ps ih =>
    cases h with
    | @cons k0 v0 _ _ _ h2 h3 =>
      rw [List.map_cons, List.map_cons]
      by_cases e : k0 = k
      · subst e
        simp only [if_true]
        exact .cons hv (ih h3)
      · have e' : ¬ (D.tup (k0.map keyD) = D.tup (k.map keyD)) := fun z => e (keysD_inj (by simpa using z))
        simp only [e, e', if_false]
        exact .cons h2 (ih h3)
theorem DenU.put {kvs : List (List Key × V)} {ps : List (D × D)} {d : D} {v : V} (k : List Key) (hv : Den K W H v d) (h : DenU K W H kvs ps) : DenU K W H (putK kvs k v) (putD ps (.tup (k.map keyD)) d) := by
  unfold putK putD
  rw [h.any k]
  by_cases c : (ps.any fun p => decide (p.1 = .tup (k.map keyD))) = true
  · rw [if_pos c, if_pos c]; exact h.map k hv
  · rw [if_neg c, if_neg c]; exact h.app (.cons hv .nil)
theorem DenU.get {kvs : List (List Key × V)} {ps : List (D × D)} (k : List Key) (h : DenU K W H kvs ps) : (valV kvs k = none ∧ getD ps (.tup (k.map keyD)) = none) ∨ ∃ v d, valV kvs k = some v ∧ getD ps (.tup (k.map keyD)) = some d ∧ Den K W H v d := by
  induction ps generalizing kvs with
  | nil => cases h; exact .inl ⟨rfl, rfl⟩
  | cons p ps ih =>
    cases h with
    | @cons k0 v0 _ d0 _ h2 h3 =>
      by_cases e : k0 = k
      · refine .inr ⟨v0, d0, valV_pos e, ?_, h2⟩
        rw [getD_cons, if_pos (show D.tup (k0.map keyD) = _ by rw [show k0 = k from e])]
      · have e' : ¬ (D.tup (k0.map keyD) = D.tup (k.map keyD)) := fun z => e (keysD_inj (by simpa using z))
        rw [valV_neg (p := (k0, v0)) e, getD_cons, if_neg e']
        exact ih h3
theorem DenU.len {kvs : List (List Key × V)} {ps : List (D × D)} (h : DenU K W H kvs ps) : kvs.length = ps.length := by
  induction ps generalizing kvs with
  | nil => cases h; rfl
  | cons p ps ih => cases h with | cons _ h => simp [ih h]
theorem Con.tk {v : V} {d : D} {k : List Key} (c : Con K W H v d) (e : tkOf d = some k) : ∃ b, v = .ref b ∧ H b = some (.tup (k.map kV)) ∧ d = .tup (k.map keyD) := by
  cases d with
  | tup ds =>
    have e : keysOfD ds = some k := e
    obtain ⟨b, xs, rfl, h1, h2⟩ := c.tupS
    have := keysD_of e
    subst this
    rw [DenL.keys h2] at h1
    exact ⟨b, rfl, h1, rfl⟩
  | _ => cases e
theorem Con.key {v : V} {d : D} {k : Key} (c : Con K W H v d) (e : keyOfD d = some k) : v = kV k ∧ d = keyD k := by
  refine ⟨?_, keyD_of e⟩
  cases d with
  | int i => cases c.int; cases e; rfl
  | str x => cases c.str; cases e; rfl
  | _ => cases e
/-- what a dict tells of a key -/
def dget : D → D → Option (Option D)
  | .dct ps, y => if (keyOfD y).isSome = true then some (getD ps y) else none
  | .dcu ps, y => if (tkOf y).isSome = true then some (getD ps y) else none
  | _, _ => none
def RelG (K : PySem.W.Frag) (W : Wd) (H : Hp) (o : Option D) (r : Option V) : Prop := (o = none ∧ r = none) ∨ ∃ d w, o = some d ∧ r = some w ∧ Den K W H w d
theorem dget_ok {v u : V} {x y : D} {o : Option D} (c1 : Con K W H v x) (c2 : Con K W H u y) (h : dget x y = some o) : ∃ a r, v = .ref a ∧ DGet H a u r ∧ RelG K W H o r := by
  unfold dget at h
  split at h
  · rename_i ps
    split at h
    · rename_i hk
      cases h
      obtain ⟨k, ek⟩ := Option.isSome_iff_exists.mp hk
      obtain ⟨rfl, rfl⟩ := c2.key ek
      obtain ⟨a, kvs, rfl, h1, h2⟩ := c1.dct
      refine ⟨a, _, rfl, .inl ⟨kvs, k, h1, rfl, rfl⟩, ?_⟩
      rcases h2.get (Den.keyD k) with ⟨e1, e2⟩ | ⟨w, d, e1, e2, h⟩
      · exact .inl ⟨e2, e1⟩
      · exact .inr ⟨d, w, e2, e1, h⟩
    · cases h
  · rename_i ps
    split at h
    · rename_i hk
      cases h
      obtain ⟨k, ek⟩ := Option.isSome_iff_exists.mp hk
      obtain ⟨b, rfl, hb, rfl⟩ := c2.tk ek
      obtain ⟨a, kvs, rfl, h1, h2⟩ := c1.dcu
      refine ⟨a, _, rfl, .inr ⟨kvs, k, _, h1, rfl, hb, rfl⟩, ?_⟩
      rcases h2.get k with ⟨e1, e2⟩ | ⟨w, d, e1, e2, h⟩
      · exact .inl ⟨e2, e1⟩
      · exact .inr ⟨d, w, e2, e1, h⟩
    · cases h
  · cases h
/-- d[y] = z -/
def dput : D → D → D → Option D
  | .dct ps, y, z => if (keyOfD y).isSome = true ∧ ps.length < sizeLine then some (.dct (putD ps y z)) else none
  | .dcu ps, y, z => if (tkOf y).isSome = true ∧ ps.length < sizeLine then some (.dcu (putD ps y z)) else none
  | _, _, _ => none
end
section
open PySem.Spec PyProof.Rows
variable {X : Cx}
/-- d[y], by values -/
theorem ix_dict (hu : X.A.units + 2 < cLine) : IxR X (fun x y H Q => ∃ a v, x = .ref a ∧ DGet H a y (some v) ∧ Q v H) := by
  intro value slice pins s σ H x y v u Q I rx ry h hs
  obtain ⟨a, z, rfl, hg, q⟩ := h
  cases rx
  unfold subscriptTail
  refine wpAny_bind ?_
  have hT := dict_typeIs I hg
  rw [getitemInPython_of_ne hT.not_modules]
  refine wpAny_bind (wpAny_specialOf hT PySem.F.slot_dict_getitem.lookup ?_)
  have fin : wpAny (model X.prog X.w) X.A (subscripted slice false (.ref a) u) (fun r s₃ => wpAny (model X.prog X.w) X.A (letTemporaryGo value (.ref a) r >>= fun _ => pure r) (EP X pins σ Q) X.xe s₃) X.xe s := by
    rw [hs]
    exact wpAny_operating (d_getItem (by omega) I hg ry fun w' s3 I3 rw' => wpAny_bind (wpAny_letTemporaryGo (wpAny_pure ⟨z, H, I3, rw', q⟩)))
  first
    | exact wpAny_pure (wpAny_bind fin)
    | exact wpAny_bind (wpAny_pure (wpAny_bind fin))
    | exact wpAny_bind fin
theorem op_inDc (hu : X.A.units + 1 < cLine) : OpR X (compareOp .In) (fun y x H Q => ∃ a o, x = .ref a ∧ DGet H a y o ∧ Q (.bl o.isSome) H) := by
  intro pins s σ H y x u v Q I ry rx h
  obtain ⟨a, o, rfl, hg, q⟩ := h
  cases rx
  exact d_in hu I hg ry fun s3 I3 => ⟨.bl o.isSome, H, I3, rfl, q⟩
theorem op_ninDc (hu : X.A.units + 1 < cLine) : OpR X (compareOp .NotIn) (fun y x H Q => ∃ a o, x = .ref a ∧ DGet H a y o ∧ Q (.bl (!o.isSome)) H) := by
  intro pins s σ H y x u v Q I ry rx h
  obtain ⟨a, o, rfl, hg, q⟩ := h
  cases rx
  exact d_notIn hu I hg ry fun s3 I3 => ⟨.bl (!o.isSome), H, I3, rfl, q⟩
theorem PSet.or {r r' : TSet} (h : PSet X r) (h' : PSet X r') : PSet X (fun o i v H Q => r o i v H Q ∨ r' o i v H Q) := by
  intro pins s σ H o i v ov iv u Q I ro ri rv q
  rcases q with q | q
  · exact h pins s σ H o i v ov iv u Q I ro ri rv q
  · exact h' pins s σ H o i v ov iv u Q I ro ri rv q
end
end Y
namespace Y
variable [TabC]
open PySem L2

/-! ### equality -/
mutual
/-- no truths within (so == is being the same), signs in range -/
def D.nice : D → Bool
  | .non => true
  | .int _ => true
  | .str x => PyData.strOk x
  | .tup ds => D.niceL ds
  | .lst ds => D.niceL ds
  | _ => false
def D.niceL : List D → Bool
  | [] => true
  | d :: ds => D.nice d && D.niceL ds
end
mutual
def D.dep : D → Nat
  | .tup ds => D.depL ds + 1
  | .lst ds => D.depL ds + 1
  | _ => 0
def D.depL : List D → Nat
  | [] => 0
  | d :: ds => max (D.dep d) (D.depL ds)
end
mutual
theorem D.nice_py : ∀ (d : D), d.nice = true → ∃ p, d.py = some p ∧ p.canLay0 = true ∧ p.depth = d.dep
  | .non, _ => ⟨_, rfl, rfl, rfl⟩
  | .int i, _ => ⟨_, rfl, rfl, rfl⟩
  | .str x, h => ⟨_, rfl, by simpa [D.nice, PyData.canLay0] using h, rfl⟩
  | .tup ds, h => by
    obtain ⟨ps, e, c, k⟩ := D.niceL_py ds (by simpa [D.nice] using h)
    exact ⟨.tuple ps, by simp [D.py, e], by simpa [PyData.canLay0] using c, by simp [PyData.depth, D.dep, k]⟩
  | .lst ds, h => by
    obtain ⟨ps, e, c, k⟩ := D.niceL_py ds (by simpa [D.nice] using h)
    exact ⟨.list ps, by simp [D.py, e], by simpa [PyData.canLay0] using c, by simp [PyData.depth, D.dep, k]⟩
  | .bl _, h => by simp [D.nice] at h
  | .dct _, h => by simp [D.nice] at h
  | .set _, h => by simp [D.nice] at h
  | .ref _, h => by simp [D.nice] at h
theorem D.niceL_py : ∀ (ds : List D), D.niceL ds = true → ∃ ps, D.pyL ds = some ps ∧ PyData.canLayAll0 ps = true ∧ PyData.depthAll ps = D.depL ds
  | [], _ => ⟨[], rfl, rfl, rfl⟩
  | d :: ds, h => by
    simp only [D.niceL, Bool.and_eq_true] at h
    obtain ⟨p, e1, c1, k1⟩ := D.nice_py d h.1
    obtain ⟨ps, e2, c2, k2⟩ := D.niceL_py ds h.2
    exact ⟨p :: ps, by simp [D.pyL, e1, e2], by simp [PyData.canLayAll0, c1, c2], by simp [PyData.depthAll, D.depL, k1, k2]⟩
end
theorem eqv_off {d e : D} {p q : PyData} (hp : d.py = some p) (hq : e.py = some q) (hd : d.nice = true) (he : e.nice = true)
    (h : match d, e with | .non, .non => False | .int _, .int _ => False | .str _, .str _ => False | .tup _, .tup _ => False | .lst _, .lst _ => False | _, _ => True) : PyData.eqv p q = decide (d = e) := by
  cases d <;> cases e <;> simp [D.py, D.nice] at hp hq hd he h <;> (try obtain ⟨_, _, rfl⟩ := hp) <;> (try obtain ⟨_, _, rfl⟩ := hq) <;> (try subst hp) <;> (try subst hq) <;> simp [PyData.eqv]
mutual
theorem D.nice_eqv : ∀ (d e : D) (p q : PyData), d.nice = true → e.nice = true → d.py = some p → e.py = some q → PyData.eqv p q = decide (d = e)
  | .non, e, p, q, hd, he, hp, hq => by
    cases e with
    | non => cases hp; cases hq; simp [PyData.eqv]
    | _ => exact eqv_off hp hq hd he trivial
  | .int i, e, p, q, hd, he, hp, hq => by
    cases e with
    | int j => cases hp; cases hq; rw [PyData.eqv, Bool.beq_eq_decide_eq]; exact decide_eq_decide.mpr ⟨fun h => by rw [h], fun h => by cases h; rfl⟩
    | _ => exact eqv_off hp hq hd he trivial
  | .str i, e, p, q, hd, he, hp, hq => by
    cases e with
    | str j => cases hp; cases hq; rw [PyData.eqv, Bool.beq_eq_decide_eq]; exact decide_eq_decide.mpr ⟨fun h => by rw [h], fun h => by cases h; rfl⟩
    | _ => exact eqv_off hp hq hd he trivial
  | .tup ds, e, p, q, hd, he, hp, hq => by
    cases e with
    | tup es =>
      rw [D.py, Option.map_eq_some_iff] at hp hq
      obtain ⟨ps, e1, h1⟩ := hp
      obtain ⟨qs, e2, h2⟩ := hq
      subst h1 h2
      rw [PyData.eqv, D.niceL_eqv ds es ps qs hd he e1 e2]
      exact decide_eq_decide.mpr ⟨fun h => by rw [h], fun h => by cases h; rfl⟩
    | _ => exact eqv_off hp hq hd he trivial
  | .lst ds, e, p, q, hd, he, hp, hq => by
    cases e with
    | lst es =>
      rw [D.py, Option.map_eq_some_iff] at hp hq
      obtain ⟨ps, e1, h1⟩ := hp
      obtain ⟨qs, e2, h2⟩ := hq
      subst h1 h2
      rw [PyData.eqv, D.niceL_eqv ds es ps qs hd he e1 e2]
      exact decide_eq_decide.mpr ⟨fun h => by rw [h], fun h => by cases h; rfl⟩
    | _ => exact eqv_off hp hq hd he trivial
  | .bl _, _, _, _, h, _, _, _ => nomatch h
  | .dct _, _, _, _, h, _, _, _ => nomatch h
  | .set _, _, _, _, h, _, _, _ => nomatch h
  | .ref _, _, _, _, h, _, _, _ => nomatch h
theorem D.niceL_eqv : ∀ (ds es : List D) (ps qs : List PyData), D.niceL ds = true → D.niceL es = true → D.pyL ds = some ps → D.pyL es = some qs → PyData.eqvAll ps qs = decide (ds = es)
  | [], es, ps, qs, _, he, hp, hq => by
    simp [D.pyL] at hp; subst hp
    cases es with
    | nil => simp [D.pyL] at hq; subst hq; simp [PyData.eqvAll]
    | cons e es =>
      simp only [D.pyL] at hq
      split at hq
      · cases hq; simp [PyData.eqvAll]
      · cases hq
  | d :: ds, es, ps, qs, hd, he, hp, hq => by
    simp only [D.pyL] at hp
    split at hp
    · rename_i p ps' e1 e2
      cases hp
      cases es with
      | nil => simp [D.pyL] at hq; subst hq; simp [PyData.eqvAll]
      | cons e es =>
        simp only [D.pyL] at hq
        split at hq
        · rename_i q qs' e3 e4
          cases hq
          rw [D.niceL, Bool.and_eq_true] at hd he
          rw [PyData.eqvAll, D.nice_eqv d e p q hd.1 he.1 e1 e3, D.niceL_eqv ds es ps' qs' hd.2 he.2 e2 e4, ← Bool.decide_and]
          exact decide_eq_decide.mpr ⟨fun h => by rw [h.1, h.2], fun h => by cases h; exact ⟨rfl, rfl⟩⟩
        · cases hq
    · cases hp
end
/-- == -/
def eqGen (x y : D) : Option Bool :=
  if (x.nice && y.nice && decide (x.dep ≤ 64) && decide (y.dep ≤ 64)) = true then some (decide (x = y)) else
  match x.py, y.py with
  | some p, some q => if (SeqAt.shaped p && SeqAt.shaped q) = true then some (PyData.eqv p q) else none
  | _, _ => none
def eqB : D → D → Option Bool
  | .str a, .str b => some (decide (a = b))
  | .int a, .int b => some (decide (a = b))
  | .bl a, .bl b => some (decide (a = b))
  | .non, .non => some true
  | .str _, .non => some false
  | .non, .str _ => some false
  | x, y => eqGen x y
def PR.bl : Option Bool → PR
  | some b => .sh (.bl b)
  | none => .no
def dEq (x y : D) : PR := .bl (eqB x y)
def dNe (x y : D) : PR := .bl ((eqB x y).map (!·))
theorem eqGen_ok {K : PySem.W.Frag} {W : Wd} {H : Hp} {v u : V} {x y : D} {b : Bool} (c1 : Con K W H v x) (c2 : Con K W H u y) (h : eqGen x y = some b) :
    ∃ d e, Dp K H v d ∧ Dp K H u e ∧ SeqAt.shaped d = true ∧ SeqAt.shaped e = true ∧ PyData.eqv d e = b := by
  unfold eqGen at h
  split at h
  · rename_i hc
    simp only [Bool.and_eq_true, decide_eq_true_eq] at hc
    obtain ⟨⟨⟨n1, n2⟩, k1⟩, k2⟩ := hc
    obtain ⟨p, e1, l1, d1⟩ := D.nice_py x n1
    obtain ⟨q, e2, l2, d2⟩ := D.nice_py y n2
    cases h
    exact ⟨p, q, c1.dp e1, c2.dp e2, by simp [SeqAt.shaped, l1, d1, k1], by simp [SeqAt.shaped, l2, d2, k2], D.nice_eqv x y p q n1 n2 e1 e2⟩
  · split at h
    · rename_i p q e1 e2
      split at h
      · rename_i hs
        simp only [Bool.and_eq_true] at hs
        cases h
        exact ⟨p, q, c1.dp e1, c2.dp e2, hs.1, hs.2, rfl⟩
      · cases h
    · cases h
section
variable {X : Cx} {K : PySem.W.Frag}
def rEqA (K : PySem.W.Frag) : R2 := fun x y H Q => rEq x y H Q ∨ rEqD K x y H Q
def rNeA (K : PySem.W.Frag) : R2 := fun x y H Q => rNe x y H Q ∨ rNeD K x y H Q
theorem op_eqA (hu : X.A.units + 64 < cLine) : OpR X (compareOp .Eq) (rEqA X.K) := op_eq.or (op_eqD hu)
theorem op_neA (hu : X.A.units + 64 < cLine) : OpR X (compareOp .NotEq) (rNeA X.K) := op_ne.or (op_neD hu)
theorem Out.ofBl {W : Wd} {H : Hp} {Q : VK} {o : Option Bool} (h : Out K W H (.bl o) Q) : ∃ b, o = some b ∧ Q (.bl b) H := by
  cases o with
  | none => exact False.elim h
  | some b => exact ⟨b, rfl, Out.bl h⟩
theorem eqB_ok {W : Wd} {H : Hp} {v u : V} {x y : D} {b : Bool} (c1 : Con K W H v x) (c2 : Con K W H u y) (h : eqB x y = some b) :
    (scal v u = true ∧ decide (v = u) = b) ∨ (∃ d e, Dp K H v d ∧ Dp K H u e ∧ SeqAt.shaped d = true ∧ SeqAt.shaped e = true ∧ PyData.eqv d e = b) := by
  unfold eqB at h
  split at h
  · cases c1.str; cases c2.str; cases h; exact .inl ⟨rfl, by simp⟩
  · cases c1.int; cases c2.int; cases h; exact .inl ⟨rfl, by simp⟩
  · cases c1.bl; cases c2.bl; cases h; exact .inl ⟨rfl, by simp⟩
  · cases c1.non; cases c2.non; cases h; exact .inl ⟨rfl, by simp⟩
  · cases c1.str; cases c2.non; cases h; exact .inl ⟨rfl, by simp⟩
  · cases c1.non; cases c2.str; cases h; exact .inl ⟨rfl, by simp⟩
  · exact .inr (eqGen_ok c1 c2 h)
theorem p2_eq : P2 K (rEqA K) dEq := by
  intro v u x y W H Q c1 c2 o
  obtain ⟨b, e, q⟩ := Out.ofBl o
  rcases eqB_ok c1 c2 e with ⟨s, eb⟩ | ⟨d, e', h1, h2, h3, h4, eb⟩
  · exact .inl ⟨s, by rw [eb]; exact q⟩
  · exact .inr ⟨d, e', h1, h2, h3, h4, by rw [eb]; exact q⟩
theorem p2_ne : P2 K (rNeA K) dNe := by
  intro v u x y W H Q c1 c2 o
  obtain ⟨b, e, q⟩ := Out.ofBl o
  rw [Option.map_eq_some_iff] at e
  obtain ⟨b', e, rfl⟩ := e
  rcases eqB_ok c1 c2 e with ⟨s, eb⟩ | ⟨d, e', h1, h2, h3, h4, eb⟩
  · exact .inl ⟨s, by rw [eb]; exact q⟩
  · exact .inr ⟨d, e', h1, h2, h3, h4, by rw [eb]; exact q⟩
end

/-! ### order -/
def pyNone : PyData → Bool
  | .none => true
  | _ => false
def ltGen (x y : D) : Option Bool := match x.py, y.py with
  | some p, some q => if (PySem.W.alike p q && decide (p.depth ≤ 64) && !pyNone p) = true then some (PySem.W.dataLt p q) else none
  | _, _ => none
def ltB : D → D → Option Bool
  | .int a, .int b => some (decide (a < b))
  | .str a, .str b => some (decide (a.cps.toList < b.cps.toList))
  | x, y => ltGen x y
def dLt (x y : D) : PR := .bl (ltB x y)
def dLe : D → D → PR
  | .int a, .int b => .sh (.bl (decide (a ≤ b)))
  | .str a, .str b => .sh (.bl (!decide (b.cps.toList < a.cps.toList)))
  | _, _ => .no
def dGt : D → D → PR
  | .int a, .int b => .sh (.bl (decide (b < a)))
  | .str a, .str b => .sh (.bl (decide (b.cps.toList < a.cps.toList)))
  | _, _ => .no
def dGe : D → D → PR
  | .int a, .int b => .sh (.bl (decide (b ≤ a)))
  | .str a, .str b => .sh (.bl (!decide (a.cps.toList < b.cps.toList)))
  | _, _ => .no
section
variable {X : Cx} {K : PySem.W.Frag}
def rLtD (K : PySem.W.Frag) : R2 := fun x y H Q => ∃ d e, Dp K H x d ∧ Dp K H y e ∧ PySem.W.alike d e = true ∧ d.depth ≤ 64 ∧ d ≠ .none ∧ Q (.bl (PySem.W.dataLt d e)) H
theorem op_ltD (hu : X.A.units + 64 < cLine) : OpR X (compareOp .Lt) (rLtD X.K) := by
  intro pins s σ H x y v u Q I rx ry h
  obtain ⟨d, e, hd, he, al, dp, nn, q⟩ := h
  obtain ⟨as, r1⟩ := Dp.reads I d x v hd rx
  obtain ⟨bs, r2⟩ := Dp.reads I e y u he ry
  have hm : min d.depth e.depth ≤ d.depth := Nat.min_le_left _ _
  exact PySem.W.rcLt_alike d e X.A s v u as bs r1 r2 al nn (by omega) _ _ _ _ ⟨.bl _, H, I, rfl, q⟩
def rLtA (K : PySem.W.Frag) : R2 := fun x y H Q => ((rI0 fun i j => .bl (decide (i < j))) x y H Q ∨ (∃ i j, x = .str i ∧ y = .str j ∧ Q (.bl (decide (i.cps.toList < j.cps.toList))) H)) ∨ rLtD K x y H Q
theorem op_ltA (hu : X.A.units + 64 < cLine) : OpR X (compareOp .Lt) (rLtA X.K) := (op_lt.or op_lt_str).or (op_ltD hu)
theorem p2_lt : P2 K (rLtA K) dLt := by
  intro v u x y W H Q c1 c2 o
  obtain ⟨b, e, q⟩ := Out.ofBl o
  unfold ltB at e
  split at e
  · cases c1.int; cases c2.int; cases e; exact .inl (.inl ⟨_, _, rfl, rfl, q⟩)
  · cases c1.str; cases c2.str; cases e; exact .inl (.inr ⟨_, _, rfl, rfl, q⟩)
  · unfold ltGen at e
    split at e
    · rename_i p r e1 e2
      split at e
      · rename_i hs
        simp only [Bool.and_eq_true, decide_eq_true_eq] at hs
        cases e
        refine .inr ⟨p, r, c1.dp e1, c2.dp e2, hs.1.1, hs.1.2, fun z => ?_, q⟩
        rw [z] at hs; simp [pyNone] at hs
      · cases e
    · cases e
def rLeA : R2 := fun x y H Q => (rI0 fun i j => .bl (decide (i ≤ j))) x y H Q ∨ (∃ i j, x = .str i ∧ y = .str j ∧ Q (.bl (!decide (j.cps.toList < i.cps.toList))) H)
def rGtA : R2 := fun x y H Q => (rI0 fun i j => .bl (decide (j < i))) x y H Q ∨ (∃ i j, x = .str i ∧ y = .str j ∧ Q (.bl (decide (j.cps.toList < i.cps.toList))) H)
def rGeA : R2 := fun x y H Q => (rI0 fun i j => .bl (decide (j ≤ i))) x y H Q ∨ (∃ i j, x = .str i ∧ y = .str j ∧ Q (.bl (!decide (i.cps.toList < j.cps.toList))) H)
theorem op_leA : OpR X (compareOp .LtE) rLeA := op_le.or op_le_str
theorem op_gtA : OpR X (compareOp .Gt) rGtA := op_gt.or op_gt_str
theorem op_geA : OpR X (compareOp .GtE) rGeA := op_ge.or op_ge_str
theorem p2_le : P2 K rLeA dLe := by
  intro v u x y W H Q c1 c2 o
  unfold dLe at o
  split at o
  · cases c1.int; cases c2.int; exact .inl ⟨_, _, rfl, rfl, o.bl⟩
  · cases c1.str; cases c2.str; exact .inr ⟨_, _, rfl, rfl, o.bl⟩
  · exact False.elim o
theorem p2_gt : P2 K rGtA dGt := by
  intro v u x y W H Q c1 c2 o
  unfold dGt at o
  split at o
  · cases c1.int; cases c2.int; exact .inl ⟨_, _, rfl, rfl, o.bl⟩
  · cases c1.str; cases c2.str; exact .inr ⟨_, _, rfl, rfl, o.bl⟩
  · exact False.elim o
theorem p2_ge : P2 K rGeA dGe := by
  intro v u x y W H Q c1 c2 o
  unfold dGe at o
  split at o
  · cases c1.int; cases c2.int; exact .inl ⟨_, _, rfl, rfl, o.bl⟩
  · cases c1.str; cases c2.str; exact .inr ⟨_, _, rfl, rfl, o.bl⟩
  · exact False.elim o
end

/-! ### in, is -/
def anyEq (x : D) (ds : List D) : Option Bool :=
    if (x.nice && D.niceL ds && decide (x.dep ≤ 64) && decide (D.depL ds ≤ 63)) = true then some (decide (x ∈ ds)) else
    match x.py, D.pyL ds with
    | some p, some qs => if (SeqAt.shaped p && SeqAt.shaped (.list qs)) = true then some (qs.any fun z => PyData.eqv z p) else none
    | _, _ => none
def inB : D → D → Option Bool
  | .str a, .str b => some (!(Builtin.Str.occurrences b a 0 b.length 1).isEmpty)
  | x, .tup ds => anyEq x ds
  | x, .lst ds => anyEq x ds
  | x, .ctup ds => anyEq x ds
  | x, .ftup ds => anyEq x ds
  | x, .dct ps => (dget (.dct ps) x).map (·.isSome)
  | x, .dcu ps => (dget (.dcu ps) x).map (·.isSome)
  | _, _ => none
def dIn (x y : D) : PR := .bl (inB x y)
def dNin (x y : D) : PR := .bl ((inB x y).map (!·))
theorem pyL_any : ∀ (ds : List D) (qs : List PyData) (x : D) (p : PyData), D.niceL ds = true → x.nice = true → D.pyL ds = some qs → x.py = some p → (qs.any fun z => PyData.eqv z p) = decide (x ∈ ds)
  | [], qs, x, p, _, _, e, _ => by simp [D.pyL] at e; subst e; simp
  | d :: ds, qs, x, p, hd, hx, e, ex => by
    simp only [D.pyL] at e
    split at e
    · rename_i q qs' e1 e2
      cases e
      simp only [D.niceL, Bool.and_eq_true] at hd
      simp only [List.any_cons, D.nice_eqv d x q p hd.1 hx e1 ex, pyL_any ds qs' x p hd.2 hx e2 ex, List.mem_cons, Bool.decide_or]
      congr 1
      exact decide_eq_decide.mpr eq_comm
    · cases e
section
variable {X : Cx} {K : PySem.W.Frag}
theorem anyEq_ok {W : Wd} {H : Hp} {v : V} {xs : List V} {x : D} {ds : List D} {b : Bool} (c1 : Con K W H v x) (c2 : DenL K W H xs ds) (h : anyEq x ds = some b) :
    ∃ d es, Dp K H v d ∧ DpAll K H xs es ∧ SeqAt.shaped d = true ∧ PyData.canLayAll0 es = true ∧ PyData.depthAll es ≤ 63 ∧ (es.any fun z => PyData.eqv z d) = b := by
  unfold anyEq at h
  split at h
  · rename_i hc
    simp only [Bool.and_eq_true, decide_eq_true_eq] at hc
    obtain ⟨⟨⟨n1, n2⟩, k1⟩, k2⟩ := hc
    obtain ⟨p, e1, l1, d1⟩ := D.nice_py x n1
    obtain ⟨q, e2, l2, d2⟩ := D.niceL_py ds n2
    cases h
    exact ⟨p, q, c1.dp e1, DenL.dp ds q c2 e2, by simp [SeqAt.shaped, l1, d1, k1], l2, by omega, pyL_any ds q x p n2 n1 e2 e1⟩
  · split at h
    · rename_i p qs e1 e2
      split at h
      · rename_i hs
        simp only [Bool.and_eq_true] at hs
        cases h
        refine ⟨p, qs, c1.dp e1, DenL.dp ds qs c2 e2, hs.1, by simpa [PyData.canLay0] using SeqAt.canLay_of_shaped hs.2, ?_, rfl⟩
        have := SeqAt.depth_of_shaped hs.2
        simp only [PyData.depth] at this
        omega
      · cases h
    · cases h
def rInA0 (K : PySem.W.Frag) : R2 := fun x y H Q => (∃ i j, x = .str i ∧ y = .str j ∧ Q (.bl (!(Builtin.Str.occurrences j i 0 j.length 1).isEmpty)) H) ∨
  ∃ a xs d es, y = .ref a ∧ (SqL K H a xs ∨ SqT K H a xs) ∧ Dp K H x d ∧ DpAll K H xs es ∧ SeqAt.shaped d = true ∧ PyData.canLayAll0 es = true ∧ PyData.depthAll es ≤ 63 ∧ Q (.bl (es.any fun z => PyData.eqv z d)) H
def rNinA0 (K : PySem.W.Frag) : R2 := fun x y H Q => (∃ i j, x = .str i ∧ y = .str j ∧ Q (.bl (!(!(Builtin.Str.occurrences j i 0 j.length 1).isEmpty))) H) ∨
  ∃ a xs d es, y = .ref a ∧ (SqL K H a xs ∨ SqT K H a xs) ∧ Dp K H x d ∧ DpAll K H xs es ∧ SeqAt.shaped d = true ∧ PyData.canLayAll0 es = true ∧ PyData.depthAll es ≤ 63 ∧ Q (.bl (!(es.any fun z => PyData.eqv z d))) H
theorem op_inA0 (hu : X.A.units + 65 < cLine) : OpR X (compareOp .In) (rInA0 X.K) := by
  refine op_in_str.or ?_
  intro pins s σ H x y v u Q I rx ry h
  obtain ⟨a, xs, d, es, rfl, hq, hd, he, sd, ce, de, q⟩ := h
  obtain ⟨as, r1⟩ := Dp.reads I d x v hd rx
  have hroom : X.A.units + 1 + min (PyData.depthAll es) d.depth < cLine := by
    have := Nat.min_le_left (PyData.depthAll es) d.depth
    omega
  rcases hq with hq | hq
  · obtain ⟨bs, r2⟩ := Dp.reads I (.list es) (.ref a) u (.lst hq he) ry
    exact SeqAt.in_list_reads r2 r1 (by simpa [PyData.canLay0] using ce) (SeqAt.canLay_of_shaped sd) hroom ⟨.bl _, H, I, rfl, q⟩
  · obtain ⟨bs, r2⟩ := Dp.reads I (.tuple es) (.ref a) u (.tup hq he) ry
    exact SeqAt.in_tuple_reads r2 r1 (by simpa [PyData.canLay0] using ce) (SeqAt.canLay_of_shaped sd) hroom ⟨.bl _, H, I, rfl, q⟩
theorem op_ninA0 (hu : X.A.units + 65 < cLine) : OpR X (compareOp .NotIn) (rNinA0 X.K) := by
  refine op_notin_str.or ?_
  intro pins s σ H x y v u Q I rx ry h
  obtain ⟨a, xs, d, es, rfl, hq, hd, he, sd, ce, de, q⟩ := h
  obtain ⟨as, r1⟩ := Dp.reads I d x v hd rx
  have hroom : X.A.units + 1 + min (PyData.depthAll es) d.depth < cLine := by
    have := Nat.min_le_left (PyData.depthAll es) d.depth
    omega
  rcases hq with hq | hq
  · obtain ⟨bs, r2⟩ := Dp.reads I (.list es) (.ref a) u (.lst hq he) ry
    exact SeqAt.notIn_list_reads r2 r1 (by simpa [PyData.canLay0] using ce) (SeqAt.canLay_of_shaped sd) hroom ⟨.bl _, H, I, rfl, q⟩
  · obtain ⟨bs, r2⟩ := Dp.reads I (.tuple es) (.ref a) u (.tup hq he) ry
    exact SeqAt.notIn_tuple_reads r2 r1 (by simpa [PyData.canLay0] using ce) (SeqAt.canLay_of_shaped sd) hroom ⟨.bl _, H, I, rfl, q⟩
def rInA (K : PySem.W.Frag) : R2 := fun x y H Q => rInA0 K x y H Q ∨ ∃ a o, y = .ref a ∧ DGet H a x o ∧ Q (.bl o.isSome) H
def rNinA (K : PySem.W.Frag) : R2 := fun x y H Q => rNinA0 K x y H Q ∨ ∃ a o, y = .ref a ∧ DGet H a x o ∧ Q (.bl (!o.isSome)) H
theorem op_inA (hu : X.A.units + 65 < cLine) : OpR X (compareOp .In) (rInA X.K) := (op_inA0 hu).or (op_inDc (by omega))
theorem op_ninA (hu : X.A.units + 65 < cLine) : OpR X (compareOp .NotIn) (rNinA X.K) := (op_ninA0 hu).or (op_ninDc (by omega))
theorem inB_ok {W : Wd} {H : Hp} {v u : V} {x y : D} {b : Bool} (c1 : Con K W H v x) (c2 : Con K W H u y) (h : inB x y = some b) :
    (∃ i j, v = .str i ∧ u = .str j ∧ (!(Builtin.Str.occurrences j i 0 j.length 1).isEmpty) = b) ∨
    (∃ a xs d es, u = .ref a ∧ (SqL K H a xs ∨ SqT K H a xs) ∧ Dp K H v d ∧ DpAll K H xs es ∧ SeqAt.shaped d = true ∧ PyData.canLayAll0 es = true ∧ PyData.depthAll es ≤ 63 ∧ (es.any fun z => PyData.eqv z d) = b) ∨
    ∃ a o, u = .ref a ∧ DGet H a v o ∧ o.isSome = b := by
  have dc : ∀ {z : D}, Con K W H u z → (dget z x).map (·.isSome) = some b → ∃ a o, u = .ref a ∧ DGet H a v o ∧ o.isSome = b := fun {z} c h => by
    rw [Option.map_eq_some_iff] at h
    obtain ⟨o, e, rfl⟩ := h
    obtain ⟨a, r, rfl, hg, rel⟩ := dget_ok c c1 e
    refine ⟨a, r, rfl, hg, ?_⟩
    rcases rel with ⟨rfl, rfl⟩ | ⟨d, w, rfl, rfl, _⟩ <;> rfl
  unfold inB at h
  split at h
  · cases c1.str; cases c2.str; cases h; exact .inl ⟨_, _, rfl, rfl, rfl⟩
  · obtain ⟨a, xs, rfl, hp, hx⟩ := c2.tup
    obtain ⟨d, es, h1, h2, h3, h4, h5, h6⟩ := anyEq_ok c1 hx h
    exact .inr (.inl ⟨a, xs, d, es, rfl, .inr hp, h1, h2, h3, h4, h5, h6⟩)
  · obtain ⟨a, xs, rfl, hp, hx⟩ := c2.lst
    obtain ⟨d, es, h1, h2, h3, h4, h5, h6⟩ := anyEq_ok c1 hx h
    exact .inr (.inl ⟨a, xs, d, es, rfl, .inl hp, h1, h2, h3, h4, h5, h6⟩)
  · obtain ⟨a, xs, rfl, hp, hx⟩ := c2.ctup
    obtain ⟨d, es, h1, h2, h3, h4, h5, h6⟩ := anyEq_ok c1 hx h
    exact .inr (.inl ⟨a, xs, d, es, rfl, .inr hp, h1, h2, h3, h4, h5, h6⟩)
  · obtain ⟨a, xs, rfl, hp, hx⟩ := c2.ftup
    obtain ⟨d, es, h1, h2, h3, h4, h5, h6⟩ := anyEq_ok c1 hx h
    exact .inr (.inl ⟨a, xs, d, es, rfl, .inr hp, h1, h2, h3, h4, h5, h6⟩)
  · exact .inr (.inr (dc c2 h))
  · exact .inr (.inr (dc c2 h))
  · cases h
theorem p2_in : P2 K (rInA K) dIn := by
  intro v u x y W H Q c1 c2 o
  obtain ⟨b, e, q⟩ := Out.ofBl o
  rcases inB_ok c1 c2 e with ⟨i, j, rfl, rfl, rfl⟩ | ⟨a, xs, d, es, h0, h1, h2, h3, h4, h5, h6, rfl⟩ | ⟨a, o', rfl, hg, rfl⟩
  · exact .inl (.inl ⟨i, j, rfl, rfl, q⟩)
  · exact .inl (.inr ⟨a, xs, d, es, h0, h1, h2, h3, h4, h5, h6, q⟩)
  · exact .inr ⟨a, o', rfl, hg, q⟩
theorem p2_nin : P2 K (rNinA K) dNin := by
  intro v u x y W H Q c1 c2 o
  obtain ⟨b, e, q⟩ := Out.ofBl o
  rw [Option.map_eq_some_iff] at e
  obtain ⟨b', e, rfl⟩ := e
  rcases inB_ok c1 c2 e with ⟨i, j, rfl, rfl, rfl⟩ | ⟨a, xs, d, es, h0, h1, h2, h3, h4, h5, h6, rfl⟩ | ⟨a, o', rfl, hg, rfl⟩
  · exact .inl (.inl ⟨i, j, rfl, rfl, q⟩)
  · exact .inl (.inr ⟨a, xs, d, es, h0, h1, h2, h3, h4, h5, h6, q⟩)
  · exact .inr ⟨a, o', rfl, hg, q⟩
def isB : D → D → Option Bool
  | .bl a, .bl b => some (decide (a = b))
  | .non, .non => some true
  | .ref _, .non => some false
  | .str _, .non => some false
  | .int _, .non => some false
  | .bl _, .non => some false
  | .tup _, .non => some false
  | .lst _, .non => some false
  | .dct _, .non => some false
  | _, _ => none
def dIs (x y : D) : PR := .bl (isB x y)
def dNis (x y : D) : PR := .bl ((isB x y).map (!·))
def rIsA : R2 := fun x y H Q => (∃ a b : Bool, x = .bl a ∧ y = .bl b ∧ Q (.bl (decide (a = b))) H) ∨ (y = .non ∧ Q (.bl (decide (x = .non))) H)
def rNisA : R2 := fun x y H Q => (∃ a b : Bool, x = .bl a ∧ y = .bl b ∧ Q (.bl (!decide (a = b))) H) ∨ (y = .non ∧ Q (.bl (!decide (x = .non))) H)
theorem op_isA : OpR X (compareOp .Is) rIsA := op_isBl.or op_isN
theorem op_nisA : OpR X (compareOp .IsNot) rNisA := op_notBl.or op_notN
theorem isB_ok {W : Wd} {H : Hp} {v u : V} {x y : D} {b : Bool} (c1 : Con K W H v x) (c2 : Con K W H u y) (h : isB x y = some b) :
    (∃ i j : Bool, v = .bl i ∧ u = .bl j ∧ decide (i = j) = b) ∨ (u = .non ∧ decide (v = .non) = b) := by
  unfold isB at h
  split at h
  · cases c1.bl; cases c2.bl; cases h; exact .inl ⟨_, _, rfl, rfl, rfl⟩
  · cases c1.non; cases c2.non; cases h; exact .inr ⟨rfl, by simp⟩
  · cases c2.non; cases h
    cases c1 with
    | den h => cases h; exact .inr ⟨rfl, by simp⟩
    | ob e h => cases h
  · cases c1.str; cases c2.non; cases h; exact .inr ⟨rfl, by simp⟩
  · cases c1.int; cases c2.non; cases h; exact .inr ⟨rfl, by simp⟩
  · cases c1.bl; cases c2.non; cases h; exact .inr ⟨rfl, by simp⟩
  · obtain ⟨a, xs, rfl, _⟩ := c1.tup; cases c2.non; cases h; exact .inr ⟨rfl, by simp⟩
  · obtain ⟨a, xs, rfl, _⟩ := c1.lst; cases c2.non; cases h; exact .inr ⟨rfl, by simp⟩
  · obtain ⟨a, xs, rfl, _⟩ := c1.dct; cases c2.non; cases h; exact .inr ⟨rfl, by simp⟩
  · cases h
theorem p2_is : P2 K rIsA dIs := by
  intro v u x y W H Q c1 c2 o
  obtain ⟨b, e, q⟩ := Out.ofBl o
  rcases isB_ok c1 c2 e with ⟨i, j, rfl, rfl, rfl⟩ | ⟨h0, rfl⟩
  · exact .inl ⟨i, j, rfl, rfl, q⟩
  · exact .inr ⟨h0, q⟩
theorem p2_nis : P2 K rNisA dNis := by
  intro v u x y W H Q c1 c2 o
  obtain ⟨b, e, q⟩ := Out.ofBl o
  rw [Option.map_eq_some_iff] at e
  obtain ⟨b', e, rfl⟩ := e
  rcases isB_ok c1 c2 e with ⟨i, j, rfl, rfl, rfl⟩ | ⟨h0, rfl⟩
  · exact .inl ⟨i, j, rfl, rfl, q⟩
  · exact .inr ⟨h0, q⟩
end
end Y
namespace Y
variable [TabC]
open PySem L2

/-! ### tests -/
def TPost (K : PySem.W.Frag) (W : Wd) (H : Hp) (σ : L2.St) (l : Lc) (r : ER) (Q : Bool → Hp → Prop) : Prop := match r with
  | .ok (.bl b) _ l' g' => ∀ W' H', Ok K W' l' g' σ H' → Fr W H (OwnA l σ) W' H' (OwnA l' σ) → Q b H'
  | _ => False
def tT (X : Cx) (e : Expr) : TT := fun σ H Q => ∀ (pins : List (Addr × Obj)) (s : Shared), Inv X pins σ H s → wpAny (model X.prog X.w) X.A (isTrue e X.env (eval e X.env)) (TP X pins σ Q) X.xe s
theorem pt_t {X : Cx} {e : Expr} : PT X e (tT X e) := ⟨fun pins s σ H Q I h => h pins s I⟩
def ST (X : Cx) (e : Expr) (m : Sm) : Prop := ∀ (σ : L2.St) (H : Hp) (W : Wd) (l : Lc) (g : Gs) (Q : Bool → Hp → Prop), Ok X.K W l g σ H → TPost X.K W H σ l (m l g) Q → tT X e σ H Q
def tPWh (X : Cx) (e : Expr) : TT := fun σ H Q => ∀ (whole : Sem Value) (pins : List (Addr × Obj)) (s : Shared), Inv X pins σ H s → wpAny (model X.prog X.w) X.A (isTrue e X.env whole) (TP X pins σ Q) X.xe s
theorem pw_t {X : Cx} {e : Expr} : PW X e (tPWh X e) := ⟨fun whole pins s σ H Q I h => h whole pins s I⟩
/-- a test whatever its 'whole' is -/
def STw (X : Cx) (e : Expr) (m : Sm) : Prop := ∀ (σ : L2.St) (H : Hp) (W : Wd) (l : Lc) (g : Gs) (Q : Bool → Hp → Prop), Ok X.K W l g σ H → TPost X.K W H σ l (m l g) Q → tPWh X e σ H Q
theorem STw.st {X : Cx} {e : Expr} {m : Sm} (h : STw X e m) : ST X e m := fun σ H W l g Q ok p pins s I => h σ H W l g Q ok p _ pins s I

section
variable {X : Cx} {K : PySem.W.Frag} {W W1 : Wd} {H H1 : Hp} {σ : L2.St} {l l1 : Lc} {g g1 : Gs} {e a b : Expr} {ma mb : Sm} {pos : Pos}
theorem TPost.shift {r : ER} {Q : Bool → Hp → Prop} (f : Fr W H (OwnA l σ) W1 H1 (OwnA l1 σ)) (h : TPost K W H σ l r Q) : TPost K W1 H1 σ l1 r Q := by
  unfold TPost at h ⊢
  split at h
  · exact fun W' H' ok' f' => h W' H' ok' (f.trans f')
  · exact False.elim h
theorem TPost.get {r : ER} {Q : Bool → Hp → Prop} (h : TPost K W H σ l r Q) : ∃ b f l' g', r = .ok (.bl b) f l' g' ∧ ∀ W' H', Ok K W' l' g' σ H' → Fr W H (OwnA l σ) W' H' (OwnA l' σ) → Q b H' := by
  unfold TPost at h
  split at h
  · exact ⟨_, _, _, _, rfl, h⟩
  · exact False.elim h
theorem TPost.bind {r : ER} {k : D → Bool → Lc → Gs → ER} {Q : Bool → Hp → Prop} (h : TPost K W H σ l (r.bind k) Q) : ∃ d f l1 g1, r = .ok d f l1 g1 ∧ TPost K W H σ l (k d f l1 g1) Q := by
  cases r with
  | ok d f l1 g1 => exact ⟨d, f, l1, g1, rfl, h⟩
  | ex c d l g => exact False.elim h
  | no => exact False.elim h

/-- by a truth -/
def onB {α : Type} (d : D) (t f n : α) : α := match d with
  | .bl true => t
  | .bl false => f
  | _ => n
def onBl {α : Type} (d : D) (t : Bool → α) (n : α) : α := match d with
  | .bl b => t b
  | _ => n
def cAnd (a b : Sm) : Sm := fun l g => (a l g).bind fun x _ l g => onB x (b l g) (.ok (.bl false) false l g) .no
def cOr (a b : Sm) : Sm := fun l g => (a l g).bind fun x _ l g => onB x (.ok (.bl true) false l g) (b l g) .no
def cNot (a : Sm) : Sm := fun l g => (a l g).bind fun x _ l g => onBl x (fun b => .ok (.bl (!b)) false l g) .no
def cIf (c a b : Sm) : Sm := fun l g => (c l g).bind fun x _ l g => onB x (a l g) (b l g) .no

/-- the test first, then by its answer -/
theorem ST.bindT {c : Expr} {mc : Sm} {k : D → Bool → Lc → Gs → ER} {Q R : Bool → Hp → Prop} (h : ST X c mc) (ok : Ok X.K W l g σ H) (p : TPost X.K W H σ l ((mc l g).bind k) Q)
    (hb : ∀ d f l g, (∀ b, d ≠ .bl b) → k d f l g = .no)
    (go : ∀ b f l1 g1 W1 H1, TPost X.K W1 H1 σ l1 (k (.bl b) f l1 g1) Q → Ok X.K W1 l1 g1 σ H1 → R b H1) : tT X c σ H R := by
  obtain ⟨d, f, l1, g1, e1, p1⟩ := p.bind
  refine h σ H W l g R ok ?_
  rw [e1]
  by_cases hd : ∃ b, d = .bl b
  · obtain ⟨b, rfl⟩ := hd
    exact fun W' H' ok' f' => go b f l1 g1 W' H' (p1.shift f') ok'
  · rw [hb d f l1 g1 fun b e => hd ⟨b, e⟩] at p1
    exact False.elim p1
theorem ST.bindE {c : Expr} {mc : Sm} {k : D → Bool → Lc → Gs → ER} {Q : VK} {R : Bool → Hp → Prop} (h : ST X c mc) (ok : Ok X.K W l g σ H) (p : EPost X.K W H σ l ((mc l g).bind k) Q)
    (hb : ∀ d f l g, (∀ b, d ≠ .bl b) → k d f l g = .no)
    (go : ∀ b f l1 g1 W1 H1, EPost X.K W1 H1 σ l1 (k (.bl b) f l1 g1) Q → Ok X.K W1 l1 g1 σ H1 → R b H1) : tT X c σ H R := by
  obtain ⟨d, f, l1, g1, e1, p1⟩ := p.bind
  refine h σ H W l g R ok ?_
  rw [e1]
  by_cases hd : ∃ b, d = .bl b
  · obtain ⟨b, rfl⟩ := hd
    exact fun W' H' ok' f' => go b f l1 g1 W' H' (p1.shift f') ok'
  · rw [hb d f l1 g1 fun b e => hd ⟨b, e⟩] at p1
    exact False.elim p1
theorem noBl3 {α : Type} {d : D} (h : ∀ b, d ≠ .bl b) {t f n : α} : onB d t f n = n := by
  cases d with
  | bl b => exact absurd rfl (h b)
  | _ => rfl
theorem noBl2 {α : Type} {d : D} (h : ∀ b, d ≠ .bl b) {t : Bool → α} {n : α} : onBl d t n = n := by
  cases d with
  | bl b => exact absurd rfl (h b)
  | _ => rfl
theorem st_not (ha : ST X a ma) : STw X (.UnaryOp .Not a pos) (cNot ma) := by
  intro σ H W l g Q ok p wh pins s I
  refine PyProof.Rows.isTrue_not ?_
  refine ha.bindT ok p (fun d f l g h => noBl2 h) (R := fun c H1 => Q (!c) H1) (fun b f l1 g1 W1 H1 p1 ok1 => ?_) pins s I
  exact p1 W1 H1 ok1 Fr.refl
theorem st_and1 (ha : ST X a ma) : STw X (.BoolOp .And [a] pos) ma := fun σ H W l g Q ok p wh pins s I => (pw_and1 (pos := pos) (pt_t (X := X) (e := a))).run wh pins s σ H Q I (ha σ H W l g Q ok p)
theorem st_or1 (ha : ST X a ma) : STw X (.BoolOp .Or [a] pos) ma := fun σ H W l g Q ok p wh pins s I => (pw_or1 (pos := pos) (pt_t (X := X) (e := a))).run wh pins s σ H Q I (ha σ H W l g Q ok p)
theorem st_and {rest : List Expr} (ha : ST X a ma) (hb : STw X (.BoolOp .And (b :: rest) pos) mb) : STw X (.BoolOp .And (a :: b :: rest) pos) (cAnd ma mb) := by
  intro σ H W l g Q ok p wh pins s I
  refine (pw_and (pos := pos) (pt_t (X := X) (e := a)) pw_t).run wh pins s σ H Q I ?_
  refine ha.bindT ok p (fun d f l g h => noBl3 h) fun x f l1 g1 W1 H1 p1 ok1 => ?_
  cases x with
  | true => exact hb σ H1 W1 l1 g1 Q ok1 p1
  | false => exact p1 W1 H1 ok1 Fr.refl
theorem st_or {rest : List Expr} (ha : ST X a ma) (hb : STw X (.BoolOp .Or (b :: rest) pos) mb) : STw X (.BoolOp .Or (a :: b :: rest) pos) (cOr ma mb) := by
  intro σ H W l g Q ok p wh pins s I
  refine (pw_or (pos := pos) (pt_t (X := X) (e := a)) pw_t).run wh pins s σ H Q I ?_
  refine ha.bindT ok p (fun d f l g h => noBl3 h) fun x f l1 g1 W1 H1 p1 ok1 => ?_
  cases x with
  | true => exact p1 W1 H1 ok1 Fr.refl
  | false => exact hb σ H1 W1 l1 g1 Q ok1 p1
theorem se_not (ha : SE X a ma) : SE X (.UnaryOp .Not a pos) (cNot ma) := by
  intro σ H W l g Q ok p
  refine tW.of (pe_not (pe_w (e := a))) ?_
  refine ha.bindV ok p fun d f l1 g1 v W1 H1 p1 ok1 fr1 le1 den => ?_
  cases d with
  | bl b => cases den; exact ⟨b, rfl, p1 _ W1 H1 ok1 Fr.refl (.bl _)⟩
  | _ => exact False.elim p1
theorem se_one {op : BoolOp} (ha : SE X a ma) : SE X (.BoolOp op [a] pos) ma := fun σ H W l g Q ok p => tW.of (pe_one pe_w) (ha σ H W l g Q ok p)
theorem se_and {rest : List Expr} (ha : SE X a ma) (hb : SE X (.BoolOp .And (b :: rest) pos) mb) : SE X (.BoolOp .And (a :: b :: rest) pos) (cAnd ma mb) := by
  intro σ H W l g Q ok p
  refine tW.of (pe_and (pe_w (e := a)) pe_w) ?_
  refine ha.bindV ok p fun d f l1 g1 v W1 H1 p1 ok1 fr1 le1 den => ?_
  cases d with
  | bl x =>
    cases den
    refine ⟨x, rfl, ?_⟩
    cases x with
    | true => exact hb σ H1 W1 l1 g1 Q ok1 p1
    | false => exact p1 _ W1 H1 ok1 Fr.refl (.bl _)
  | _ => exact False.elim p1
theorem se_or {rest : List Expr} (ha : SE X a ma) (hb : SE X (.BoolOp .Or (b :: rest) pos) mb) : SE X (.BoolOp .Or (a :: b :: rest) pos) (cOr ma mb) := by
  intro σ H W l g Q ok p
  refine tW.of (pe_or (pe_w (e := a)) pe_w) ?_
  refine ha.bindV ok p fun d f l1 g1 v W1 H1 p1 ok1 fr1 le1 den => ?_
  cases d with
  | bl x =>
    cases den
    refine ⟨x, rfl, ?_⟩
    cases x with
    | true => exact p1 _ W1 H1 ok1 Fr.refl (.bl _)
    | false => exact hb σ H1 W1 l1 g1 Q ok1 p1
  | _ => exact False.elim p1
theorem se_if {c : Expr} {mc : Sm} (hc : ST X c mc) (ha : SE X a ma) (hb : SE X b mb) : SE X (.IfExp c a b pos) (cIf mc ma mb) := by
  intro σ H W l g Q ok p
  refine tW.of (pe_ifExp (pt_t (e := c)) (pe_w (e := a)) (pe_w (e := b))) ?_
  refine hc.bindE ok p (fun d f l g h => noBl3 h) fun x f l1 g1 W1 H1 p1 ok1 => ?_
  cases x with
  | true => exact ha σ H1 W1 l1 g1 Q ok1 p1
  | false => exact hb σ H1 W1 l1 g1 Q ok1 p1
/-- by truth -/
def dTruth : D → PR
  | .non => .sh (.bl false)
  | .bl b => .sh (.bl b)
  | .int i => .sh (.bl (i != 0))
  | .str x => if x.length ≤ sizeLine then .sh (.bl ((x.length : Int) != 0)) else .no
  | .tup ds => .sh (.bl (!ds.isEmpty))
  | .lst ds => .sh (.bl (!ds.isEmpty))
  | .ftup ds => .sh (.bl (!ds.isEmpty))
  | _ => .no
theorem Con.truth {v : V} {d : D} {Q : VK} (c : Con K W H v d) (o : Out K W H (dTruth d) Q) : ∃ k, TruV K v H k ∧ Q (.bl k) H := by
  cases d with
  | non => cases c.non; exact ⟨false, rfl, o.bl⟩
  | bl b => cases c.bl; exact ⟨b, rfl, o.bl⟩
  | int i => cases c.int; exact ⟨_, rfl, o.bl⟩
  | str x => cases c.str; obtain ⟨h, o⟩ := Out.ite o; exact ⟨_, ⟨h, rfl⟩, o.bl⟩
  | tup ds =>
    obtain ⟨a, xs, rfl, h1, h2⟩ := c.tup
    have e : xs.isEmpty = ds.isEmpty := by cases h2 <;> rfl
    exact ⟨_, .inr (.inl ⟨xs, h1, rfl⟩), by rw [e]; exact Out.bl o⟩
  | ftup ds =>
    obtain ⟨a, xs, rfl, h1, h2⟩ := c.ftup
    have e : xs.isEmpty = ds.isEmpty := by cases h2 <;> rfl
    exact ⟨_, .inr (.inl ⟨xs, h1, rfl⟩), by rw [e]; exact Out.bl o⟩
  | lst ds =>
    obtain ⟨a, xs, rfl, h1, h2⟩ := c.lst
    have e : xs.isEmpty = ds.isEmpty := by cases h2 <;> rfl
    exact ⟨_, .inl ⟨xs, h1, rfl⟩, by rw [e]; exact Out.bl o⟩
  | _ => exact False.elim o
theorem st_val {o : Opd} (ha : SO X a o) (he : ∀ whole, isTrue a X.env whole = (do let v ← whole; standAt a.pos; holding [v] (truthy v))) : ST X a (cU dTruth o) := by
  intro σ H W l g Q ok p pins s I
  have q : EPost X.K W H σ l (cU dTruth o l g) (fun v H' => ∃ b, v = .bl b ∧ Q b H') := by
    obtain ⟨b, f, l', g', e, h⟩ := p.get
    rw [e]
    intro v W' H' ok' f' r
    have nb : f = false := by
      cases f with
      | false => rfl
      | true => obtain ⟨_, _, ob, _⟩ := r; cases ob
    subst nb
    have r : Den X.K W' H' v (.bl b) := r
    cases r
    exact ⟨b, rfl, h W' H' ok' f'⟩
  obtain ⟨t, pe, ht⟩ := su (R := fun v H' => ∃ k, TruV X.K v H' k ∧ Q k H') o ha ok q fun v d W1 H1 c o => by
    obtain ⟨k, h1, b, h2, h3⟩ := c.truth o
    cases h2
    exact ⟨k, h1, h3⟩
  exact (pt_truth pe he).run pins s σ H Q I ht
/-- a comparison as a test -/
theorem st_cmp {op : CmpOp} {r : R2} {f : D → D → PR} {oa ob : Opd} (ho : OpR X (compareOp op) r) (hm : behindInMarks op b = false) (hf : P2 X.K r f) (ha : SO X a oa) (hb : SO X b ob) : ST X (.Compare a [op] [b] pos) (c2 f oa ob) := by
  intro σ H W l g Q ok p pins s I
  have q : EPost X.K W H σ l (c2 f oa ob l g) (fun v H' => ∃ b, v = .bl b ∧ Q b H') := by
    obtain ⟨b, f, l', g', e, h⟩ := p.get
    rw [e]
    intro v W' H' ok' f' r
    have nb : f = false := by
      cases f with
      | false => rfl
      | true => obtain ⟨_, _, ob, _⟩ := r; cases ob
    subst nb
    have r : Den X.K W' H' v (.bl b) := r
    cases r
    exact ⟨b, rfl, h W' H' ok' f'⟩
  obtain ⟨ta, tb, pa, pb, t⟩ := s2 (R := fun x y H2 => r x y H2 fun x H' => ∃ k, x = .bl k ∧ Q k H') oa ob ha hb ok q fun v u x y W2 H2 c1 c2 o => hf v u x y W2 H2 _ c1 c2 o
  exact (pt_cmpR ho pa pb hm).run pins s σ H Q I t
end

/-! ### argument lists, displays -/
def cArgs : List Sm → (List D → Sm) → Sm
  | [], k => k []
  | m :: ms, k => fun l g => (m l g).bind fun x _ l g => cArgs ms (fun xs => k (x :: xs)) l g
inductive SA (X : Cx) : List Expr → List Sm → Prop
  | nil : SA X [] []
  | cons {e : Expr} {es : List Expr} {m : Sm} {ms : List Sm} : SE X e m → (starEach (e :: es) X.env = (false, eval e X.env) :: starEach es X.env) → SA X es ms → SA X (e :: es) (m :: ms)
theorem sa {X : Cx} {σ : L2.St} {Q : VK} {R : List V → Hp → Prop} : ∀ {es : List Expr} {ms : List Sm} {k : List D → Sm} {H : Hp} {W : Wd} {l : Lc} {g : Gs}, SA X es ms → Ok X.K W l g σ H → EPost X.K W H σ l (cArgs ms k l g) Q →
    (∀ ds vs W1 H1 l1 g1, EPost X.K W1 H1 σ l1 (k ds l1 g1) Q → Ok X.K W1 l1 g1 σ H1 → Fr W H (OwnA l σ) W1 H1 (OwnA l1 σ) → DenL X.K W1 H1 vs ds → R vs H1) → ∃ t, PA X es t ∧ t σ H R := by
  intro es ms k H W l g h
  induction h generalizing R k H W l g with
  | nil => exact fun ok p go => ⟨_, pa_nil, go [] [] W H l g p ok Fr.refl .nil⟩
  | @cons e es m ms he hs hr ih =>
    intro ok p go
    refine ⟨tCons (tW X e) (fun σ' H' Q' => ∃ t, PA X es t ∧ t σ' H' Q'), pa_cons pe_w ⟨fun pos pins s σ' H' Q' I ⟨t, ht, q⟩ => ht.run pos pins s σ' H' Q' I q⟩ hs, ?_⟩
    refine he.bindV ok p fun d f l1 g1 v W1 H1 p1 ok1 fr1 le1 den => ?_
    refine ih (R := fun xs H2 => R (v :: xs) H2) (k := fun xs => k (d :: xs)) ok1 p1 fun ds vs W2 H2 l2 g2 p2 ok2 fr2 den2 => ?_
    exact go (d :: ds) (v :: vs) W2 H2 l2 g2 p2 ok2 (fr1.trans fr2) (.cons (den.le (ok1.le fr2)) den2)
theorem SA.length {X : Cx} {es : List Expr} {ms : List Sm} (h : SA X es ms) : es.length = ms.length := by
  induction h with
  | nil => rfl
  | cons _ _ _ ih => simp [ih]
def cTup (ms : List Sm) : Sm := cArgs ms fun ds l g => if ds.length ≤ sizeLine then .ok (.tup ds) false l g else .no
def cLst (ms : List Sm) : Sm := cArgs ms fun ds l g => if ds.length ≤ sizeLine then .ok (.lst ds) true l g else .no
/-- a new box -/
def cBox (m : Sm) : Sm := fun l g => (m l g).bind fun d f l g => if f = true then .ok (.ref g.length) false l (g ++ [.box d]) else .no
section
variable {X : Cx} {K : PySem.W.Frag} {W W1 : Wd} {H H1 : Hp} {σ : L2.St} {l l1 : Lc} {g g1 : Gs} {e a b : Expr} {ma mb : Sm} {pos : Pos}
theorem EPost.ite {c : Prop} [Decidable c] {r : ER} {Q : VK} (h : EPost K W H σ l (if c then r else .no) Q) : c ∧ EPost K W H σ l r Q := by
  by_cases hc : c
  · rw [if_pos hc] at h; exact ⟨hc, h⟩
  · rw [if_neg hc] at h; exact False.elim h
theorem se_tup {es : List Expr} {ms : List Sm} {k : Nat} (h : SA X es ms) : SE X (.Tuple es k pos) (cTup ms) := by
  intro σ H W l g Q ok p
  obtain ⟨t, pa, q⟩ := sa (R := fun xs H1 => xs.length ≤ sizeLine ∧ ∀ p, H1 p = none → Q (.ref p) (upd H1 p (.tup xs))) h ok p fun ds vs W1 H1 l1 g1 p1 ok1 fr1 den => by
    obtain ⟨hl, p1⟩ := p1.ite
    exact ⟨by rw [den.length]; exact hl, fun a ha => NewV.post ok1 (.tup ha den) p1⟩
  exact tW.of (pe_tup pa) q
theorem se_lst {es : List Expr} {ms : List Sm} (h : SA X es ms) : SE X (.List es pos) (cLst ms) := by
  intro σ H W l g Q ok p
  obtain ⟨t, pa, q⟩ := sa (R := fun xs H1 => xs.length ≤ sizeLine ∧ ∀ p, H1 p = none → Q (.ref p) (upd H1 p (.lst xs))) h ok p fun ds vs W1 H1 l1 g1 p1 ok1 fr1 den => by
    obtain ⟨hl, p1⟩ := p1.ite
    exact ⟨by rw [den.length]; exact hl, fun a ha => NewV.post ok1 (.lst ha den) p1⟩
  exact tW.of (pe_lst pa) q
/-- a new thing becomes a box -/
theorem Ok.box {a : Addr} {d : D} (ok : Ok K W l g σ H) (ob : ObR K W H a d) (n1 : a ∉ W.mu) (n2 : ¬ W.F a) (n3 : ¬ OwnA l σ a) : Ok K ⟨W.mu ++ [a], W.F⟩ l (g ++ [.box d]) σ H := by
  have L : Le W H ⟨W.mu ++ [a], W.F⟩ H := ⟨⟨[a], rfl⟩, fun _ h => h, fun _ _ h _ => .inl h, fun _ _ h => h, fun _ _ _ h => h⟩
  refine ⟨⟨by simp [ok.rep.len], ?_, fun n b x h1 h2 => ?_, fun b hb hm => ?_, ok.rep.fd, ok.rep.tabs⟩, ⟨ok.loc.len, fun i d h => ?_, fun i d h => ?_, ok.loc.dist⟩⟩
  · exact List.nodup_append.mpr ⟨ok.rep.nd, by simp, fun x hx y hy => by
      have : y = a := by simpa using hy
      subst this
      exact fun e => n1 (e ▸ hx)⟩
  · have h1 : (W.mu ++ [a])[n]? = some b := h1
    by_cases hn : n < W.mu.length
    · rw [List.getElem?_append_left hn] at h1
      rw [List.getElem?_append_left (by rw [← ok.rep.len]; exact hn)] at h2
      exact (ok.rep.ob n b x h1 h2).le L (fun _ h => h)
    · have hn' : n = W.mu.length := by
        have := (List.getElem?_eq_some_iff.mp h1).1
        simp at this; omega
      subst hn'
      simp at h1
      rw [ok.rep.len] at h2
      simp at h2
      subst h1 h2
      exact .box (ob.le L (fun _ h => h))
  · rcases List.mem_append.mp hm with hm | hm
    · exact ok.rep.dis b hb hm
    · have : b = a := by simpa using hm
      subst this
      exact n2 hb
  · obtain ⟨v, e, hd⟩ := ok.loc.val i d h
    exact ⟨v, e, hd.le L⟩
  · obtain ⟨b, e, ob', m1, m2⟩ := ok.loc.own i d h
    refine ⟨b, e, ob'.le L (fun _ h => h), fun hm => ?_, m2⟩
    rcases List.mem_append.mp hm with hm | hm
    · exact m1 hm
    · have : b = a := by simpa using hm
      subst this
      exact n3 ⟨i, d, h, e⟩
theorem se_box {m : Sm} (h : SE X e m) : SE X e (cBox m) := by
  intro σ H W l g Q ok p
  obtain ⟨d, f, l1, g1, e1, p1⟩ := p.bind
  refine h σ H W l g Q ok ?_
  rw [e1]
  intro v W' H' ok' f' r'
  cases f with
  | false => exact False.elim p1
  | true =>
    obtain ⟨a, rfl, ob, n1, n2, n3, z⟩ := r'
    refine p1 (.ref a) ⟨W'.mu ++ [a], W'.F⟩ H' (ok'.box ob n1 n2 n3) ⟨?_, f'.sub, f'.new, f'.keep, f'.dom, f'.own, f'.keepF⟩ (.ref ?_)
    · obtain ⟨m, e, hm⟩ := f'.mu
      refine ⟨m ++ [a], by show W'.mu ++ [a] = _; rw [e, List.append_assoc], fun x hx => ?_⟩
      rcases List.mem_append.mp hx with hx | hx
      · exact hm x hx
      · rw [List.mem_singleton.mp hx]; exact z
    · show (W'.mu ++ [a])[g1.length]? = some a
      rw [← ok'.rep.len]; simp

/-! ### calls of the text's defs -/
abbrev Fn := List D → Gs → ER
def noOwn : Addr → Prop := fun _ => False
def CPost (K : PySem.W.Frag) (W : Wd) (H : Hp) (r : ER) (Q : VK) : Prop := match r with
  | .ok d f _ g' => ∀ v W' H', Rep K W' g' H' → Fr W H noOwn W' H' noOwn → Res K W' H noOwn noOwn H' v d f → Q v H'
  | _ => False
/-- what a def of the text promises -/
def spD (K : PySem.W.Frag) (F : Fn) : Sp := fun vs H Q _ => ∃ (W : Wd) (g : Gs) (ds : List D), DenL K W H vs ds ∧ Rep K W g H ∧ CPost K W H (F ds g) Q
def cCall (F : Fn) (dfl : List D) (ms : List Sm) : Sm := cArgs ms fun ds l g => (F (ds ++ dfl) g).bind fun d f _ g' => .ok d f l g'
theorem CPost.call {r : ER} {Q : VK} (ok : Ok K W l g σ H) (p : EPost K W H σ l (r.bind fun d f _ g' => .ok d f l g') Q) : CPost K W H r Q := by
  cases r with
  | ok d f l0 g' =>
    intro v W' H' rep fr res
    have L : Le W H W' H' := fr.le ok.rep fun a z => z.elim
    have apart : ∀ a, (∃ o, H a = some o) → a ∉ W.mu → a ∉ W'.mu := fun a ⟨o, e⟩ n hm => by
      obtain ⟨m, em, hn⟩ := fr.mu
      rw [em] at hm
      rcases List.mem_append.mp hm with hm | hm
      · exact n hm
      · rcases hn a hm with q | q
        · rw [e] at q; cases q
        · exact q
    have apartF : ∀ a, (∃ o, H a = some o) → ¬ W.F a → ¬ W'.F a := fun a ⟨o, e⟩ n hf => by
      rcases fr.new a hf with q | q | q
      · exact n q
      · rw [e] at q; cases q
      · exact q
    have ok' : Ok K W' l g' σ H' := by
      refine ⟨rep, ok.loc.len, fun i d h => ?_, fun i d h => ?_, ok.loc.dist⟩
      · obtain ⟨v, e, hd⟩ := ok.loc.val i d h
        exact ⟨v, e, hd.le L⟩
      · obtain ⟨b, e, ob', m1, m2⟩ := ok.loc.own i d h
        obtain ⟨o, eo, _⟩ := ob'.lives
        exact ⟨b, e, ob'.le L (fun o h => fr.keep b o h (ob'.nt h) m1 (fun z => z) m2), apart b ⟨o, eo⟩ m1, apartF b ⟨o, eo⟩ m2⟩
    refine p v W' H' ok' ⟨?_, fr.sub, fun a h => ?_, fun a o h nt h1 _ h3 => fr.keep a o h nt h1 (fun z => z) h3, fr.dom, fun a h => .inl h, fun a o h nt h1 _ => fr.keepF a o h nt h1 fun z => z⟩ ?_
    · obtain ⟨m, e, hm⟩ := fr.mu
      exact ⟨m, e, fun a ha => (hm a ha).elim .inl fun z => z.elim⟩
    · rcases fr.new a h with q | q | q
      · exact .inl q
      · exact .inr (.inl q)
      · exact q.elim
    · cases f with
      | false => exact res
      | true =>
        obtain ⟨a, e, ob, n1, n2, n3, z⟩ := res
        refine ⟨a, e, ob, n1, n2, fun ha => ?_, .inl (z.elim id fun z => z.elim)⟩
        obtain ⟨o, eo, _⟩ := ok.loc.ownMut ha
        rcases z with z | z
        · rw [eo] at z; cases z
        · exact z
  | ex c d l g => exact False.elim p
  | no => exact False.elim p
/-- the constants that fill up -/
inductive Fixed (K : PySem.W.Frag) : List V → List D → Prop
  | nil : Fixed K [] []
  | cons {v : V} {vs : List V} {d : D} {ds : List D} : (∀ W H, Den K W H v d) → Fixed K vs ds → Fixed K (v :: vs) (d :: ds)
theorem Fixed.den {vs : List V} {ds : List D} (h : Fixed K vs ds) : DenL K W H vs ds := by
  induction h with
  | nil => exact .nil
  | cons h _ ih => exact .cons (h W H) ih
theorem call_core {F : Fn} {dfl : List D} {dvs : List V} {E : XK} {ms : List Sm} {es : List Expr} {Q : VK} (ha : SA X es ms) (hd : Fixed X.K dvs dfl) (ok : Ok X.K W l g σ H)
    (p : EPost X.K W H σ l (cCall F dfl ms l g) Q) : ∃ t, PA X es t ∧ t σ H fun vs H1 => spD X.K F (vs ++ dvs) H1 Q E :=
  sa (R := fun vs H1 => spD X.K F (vs ++ dvs) H1 Q E) ha ok p fun ds vs W1 H1 l1 g1 p1 ok1 fr1 den => ⟨W1, g1, ds ++ dfl, den.append hd.den, ok1.rep, CPost.call ok1 p1⟩
open PySem.Spec PyProof.Rows in
/-- a def's promise, where no repr is under way -/
structure FnG (P : Program) (w : World) (K : PySem.W.Frag) (mg : Str → Option Value) (base : Heap) (k : Nat) (f : Addr) (fd : FuncData) (ps : List Str) (sp : Sp) : Prop where
  len : ∀ vs H Q, sp vs H Q E0 → vs.length = ps.length
  run : ∀ (A : Around) (outer : List Env) (s : Shared) (H : Hp) (args : Args) (us : List Value) (vs : List V) (Q : VK), Room k A → A.guards = some [] → Env0 P w K mg base A outer s H → BindsTo s fd args (ps.zip us) → Vals vs us → sp vs H Q E0 →
    codeAny (model P w) A (.call (.ref f) args) (CR CX0 outer P w H s Q E0) s
theorem FnG.mono {P : Program} {w : World} {K : PySem.W.Frag} {mg : Str → Option Value} {base : Heap} {j k : Nat} {f : Addr} {fd : FuncData} {ps : List Str} {sp : Sp} (F : FnG P w K mg base j f fd ps sp) (h : j ≤ k) : FnG P w K mg base k f fd ps sp :=
  ⟨F.len, fun A outer s H args us vs Q hr => F.run A outer s H args us vs Q (hr.mono h)⟩
section
open PySem.Spec PyProof.Rows
variable {X : Cx} {k : Nat} {f : Addr} {fd : FuncData} {ps : List Str} {sp : Sp} {ds : List Value} {dvs : List V} {x : Str} {p pos : Pos} {e : Expr} {es : List Expr} {t : TA}
theorem run_g {pins : List (Addr × Obj)} {σ : L2.St} {H : Hp} {s : Shared} {Q : VK} {us : List Value} {vs : List V} (F : FnG X.prog X.w X.K X.mg X.base k f fd ps sp) (hr : Room k X.A) (gd : X.A.guards = some []) (hb : Binds X.K fd ps ds) (hd : Vals dvs ds)
    (I : Inv X pins σ H s) (r : Vals vs us) (h : sp (vs ++ dvs) H Q E0) : wpAny (model X.prog X.w) X.A (PySem.call (.ref f) us) (EP X pins σ Q) X.xe s := by
  have both : Vals (vs ++ dvs) (us ++ ds) := r.append hd
  have many : (us ++ ds).length = ps.length := by rw [← both.length]; exact F.len _ _ _ h
  refine wpAny_call (codeAny_mono (F.run X.A X.stack s H ⟨us, []⟩ (us ++ ds) (vs ++ dvs) Q hr gd I.env0 (hb s us I.kIn many) both h) fun res s' hq => ?_)
  match res, hq with
  | .error e, hq => exact False.elim hq
  | .ok (.ret u), hq => exact I.after hq
  | .ok .next, hq => exact False.elim hq
  | .ok .brk, hq => exact False.elim hq
  | .ok .cont, hq => exact False.elim hq
theorem pe_callG (F : FnG X.prog X.w X.K X.mg X.base k f fd ps sp) (hr : Room k X.A) (gd : X.A.guards = some []) (hg : Gl X x) (hm : X.mg x = some (.ref f)) (hk : PySem.W.keepIn X.K (.ref f) = true) (hb : Binds X.K fd ps ds) (hd : Vals dvs ds)
    (ha : PA X (e :: es) t) (hdb : (x == ("__debug__" : Str)) = false) (he : starEach (e :: es) X.env = (false, eval e X.env) :: starEach es X.env) (hpl : (backTo pos (starEach es X.env)).any (·.1) = false) :
    PE X (.Call (.Name x p) (e :: es) [] pos) (tCall sp dvs E0 t) :=
  ⟨fun pins s σ H Q I h => wpAny_Call_Name_kw (ld_glob I hg hm (PySem.W.callWith_K (h₀ := X.base) I.ok.mod.kin hk (thn (ha.run pos pins s σ H _ I h) fun us s1 ⟨vs, H1, I1, r, q⟩ => ⟨I1.kIn, run_g F hr gd hb hd I1 r q⟩) he hpl) hdb)⟩
theorem pe_callG0 (F : FnG X.prog X.w X.K X.mg X.base k f fd ps sp) (hr : Room k X.A) (gd : X.A.guards = some []) (hg : Gl X x) (hm : X.mg x = some (.ref f)) (hk : PySem.W.keepIn X.K (.ref f) = true) (hb : Binds X.K fd ps ds) (hd : Vals dvs ds)
    (hdb : (x == ("__debug__" : Str)) = false) : PE X (.Call (.Name x p) [] [] pos) (tCall sp dvs E0 tNil) :=
  ⟨fun pins s σ H Q I h => wpAny_Call_Name_kw (ld_glob I hg hm (PySem.W.callWith_K0 I.kIn hk (run_g (us := []) F hr gd hb hd I .nil h)) hdb)⟩
end
/-- what is known of a def that may be called -/
structure FnK (X : Cx) (x : Str) (F : Fn) (dfl : List D) : Prop where
  ex : ∃ (k : Nat) (f : Addr) (fd : FuncData) (ps : List Str) (dvs : List V) (ds : List Value), FnG X.prog X.w X.K X.mg X.base k f fd ps (spD X.K F) ∧ Room k X.A ∧ X.A.guards = some [] ∧ X.mg x = some (.ref f) ∧ PySem.W.keepIn X.K (.ref f) = true ∧
    Binds X.K fd ps ds ∧ Vals dvs ds ∧ Fixed X.K dvs dfl
/-- .. wherever there is room -/
structure FnK0 (X : Cx) (k : Nat) (x : Str) (F : Fn) (dfl : List D) : Prop where
  ex : ∃ (f : Addr) (fd : FuncData) (ps : List Str) (dvs : List V) (ds : List Value), FnG X.prog X.w X.K X.mg X.base k f fd ps (spD X.K F) ∧ X.mg x = some (.ref f) ∧ PySem.W.keepIn X.K (.ref f) = true ∧
    Binds X.K fd ps ds ∧ Vals dvs ds ∧ Fixed X.K dvs dfl
theorem FnK0.at {X : Cx} {k : Nat} {x : Str} {F : Fn} {dfl : List D} (h : FnK0 X k x F dfl) (hr : Room k X.A) (gd : X.A.guards = some []) : FnK X x F dfl := by
  obtain ⟨f, fd, ps, dvs, ds, h1, h2⟩ := h.ex
  exact ⟨k, f, fd, ps, dvs, ds, h1, hr, gd, h2⟩
theorem SA.plain {es : List Expr} {ms : List Sm} (h : SA X es ms) : (backTo pos (starEach es X.env)).any (·.1) = false := by
  induction h with
  | nil => rfl
  | @cons e es m ms h1 h2 h3 ih =>
    rw [h2]
    show (false || (backTo pos (starEach es X.env)).any (·.1)) = false
    rw [ih]; rfl
theorem se_call {x : Str} {F : Fn} {dfl : List D} {ms : List Sm} {es : List Expr} {p0 : Pos} (hk : FnK X x F dfl) (hg : Gl X x) (hdb : (x == ("__debug__" : Str)) = false) (ha : SA X es ms) : SE X (.Call (.Name x p0) es [] pos) (cCall F dfl ms) := by
  intro σ H W l g Q ok p
  obtain ⟨k, f, fd, ps, dvs, ds, FO, hr, gd, hm, hkp, hb, hv, hd⟩ := hk.ex
  obtain ⟨t, pa, ht⟩ := call_core (E := E0) ha hd ok p
  cases es with
  | nil =>
    obtain ⟨t', pa', ht'⟩ := call_core (E := E0) ha hd ok p
    cases ha
    refine tW.of (pe_callG0 FO hr gd hg hm hkp hb hv hdb) ?_
    show spD X.K F ([] ++ dvs) H Q E0
    exact ⟨W, g, [] ++ dfl, DenL.append .nil hd.den, ok.rep, CPost.call ok p⟩
  | cons e es =>
    have hs : starEach (e :: es) X.env = (false, eval e X.env) :: starEach es X.env := by cases ha with | cons _ h _ => exact h
    exact tW.of (pe_callG FO hr gd hg hm hkp hb hv pa hdb hs (by cases ha with | cons _ _ h => exact h.plain)) ht
end

/-! ### subscripts -/
def dIx : D → D → PR
  | .str z, .int i => if z.length ≤ sizeLine then (match atI z.cps.toList i with | some c => .sh (.str ⟨#[c]⟩) | none => .no) else .no
  | .tup ds, .int i => match atI ds i with | some d => .sh d | none => .no
  | .lst ds, .int i => match atI ds i with | some d => .sh d | none => .no
  | .ctup ds, .int i => match atI ds i with | some d => .sh d | none => .no
  | .ftup ds, .int i => match atI ds i with | some d => .sh d | none => .no
  | .clst ds, .int i => match atI ds i with | some d => .sh d | none => .no
  | .dct ps, y => match dget (.dct ps) y with | some (some d) => .sh d | _ => .no
  | .dcu ps, y => match dget (.dcu ps) y with | some (some d) => .sh d | _ => .no
  | _, _ => .no
theorem DenL.at {K : PySem.W.Frag} {W : Wd} {H : Hp} {xs : List V} {ds : List D} {i : Int} {d : D} (h : DenL K W H xs ds) (e : atI ds i = some d) : ∃ v, atI xs i = some v ∧ Den K W H v d := by
  unfold atI at e ⊢
  rw [h.length]
  cases hj : ixN ds.length i with
  | none => rw [hj] at e; cases e
  | some j =>
    rw [hj] at e
    exact h.get e
section
variable {X : Cx} {K : PySem.W.Frag}
def rIxD (K : PySem.W.Frag) : R2 := fun x y H Q => rIx K x y H Q ∨ ∃ a v, x = .ref a ∧ DGet H a y (some v) ∧ Q v H
theorem ix_all (hu : X.A.units + 2 < cLine) : IxR X (rIxD X.K) := ix_seq.or (ix_dict hu)
theorem p2_ix : P2 K (rIxD K) dIx := by
  intro v u x y W H Q c1 c2 o
  have dc : ∀ {z : D}, Con K W H v z → Out K W H (match dget z y with | some (some d) => .sh d | _ => .no) Q → ∃ a w, v = .ref a ∧ DGet H a u (some w) ∧ Q w H := fun {z} c o => by
    split at o
    · rename_i d e
      obtain ⟨a, r, rfl, hg, rel⟩ := dget_ok c c2 e
      rcases rel with ⟨h, _⟩ | ⟨d', w, h, rfl, hd⟩
      · cases h
      · cases h
        exact ⟨a, w, rfl, hg, o _ _ (.same hd)⟩
    · exact False.elim o
  unfold dIx at o
  split at o
  · cases c1.str; cases c2.int
    obtain ⟨hl, o⟩ := o.ite
    split at o
    · rename_i c e
      exact .inl (.inr (.inr ⟨_, _, c, rfl, rfl, hl, e, o.str⟩))
    · exact False.elim o
  · cases c2.int
    obtain ⟨a, xs, rfl, hp, hx⟩ := c1.tup
    split at o
    · rename_i d e
      obtain ⟨w, e', den⟩ := hx.at e
      exact .inl (.inr (.inl ⟨a, xs, _, w, rfl, rfl, hp, e', o _ _ (.same den)⟩))
    · exact False.elim o
  · cases c2.int
    obtain ⟨a, xs, rfl, hp, hx⟩ := c1.lst
    split at o
    · rename_i d e
      obtain ⟨w, e', den⟩ := hx.at e
      exact .inl (.inl ⟨a, xs, _, w, rfl, rfl, hp, e', o _ _ (.same den)⟩)
    · exact False.elim o
  · cases c2.int
    obtain ⟨a, xs, rfl, hp, hx⟩ := c1.ctup
    split at o
    · rename_i d e
      obtain ⟨w, e', den⟩ := hx.at e
      exact .inl (.inr (.inl ⟨a, xs, _, w, rfl, rfl, hp, e', o _ _ (.same den)⟩))
    · exact False.elim o
  · cases c2.int
    obtain ⟨a, xs, rfl, hp, hx⟩ := c1.ftup
    split at o
    · rename_i d e
      obtain ⟨w, e', den⟩ := hx.at e
      exact .inl (.inr (.inl ⟨a, xs, _, w, rfl, rfl, hp, e', o _ _ (.same den)⟩))
    · exact False.elim o
  · cases c2.int
    obtain ⟨a, xs, rfl, hp, hx⟩ := c1.clst
    split at o
    · rename_i d e
      obtain ⟨w, e', den⟩ := hx.at e
      exact .inl (.inl ⟨a, xs, _, w, rfl, rfl, hp.sq, e', o _ _ (.same den)⟩)
    · exact False.elim o
  · exact .inr (dc c1 o)
  · exact .inr (dc c1 o)
  · exact False.elim o
end
def cutD (ds : List D) (lo hi : Option Int) : List D := (ds.drop (HT.sIx ds.length 0 lo)).take (HT.sIx ds.length ds.length hi - HT.sIx ds.length 0 lo)
def dSl (x : D) (lo hi : Option Int) : PR := match x with
  | .str z => if z.length ≤ sizeLine then .sh (.str (cutS z lo hi)) else .no
  | .tup ds => .sh (.tup (cutD ds lo hi))
  | .lst ds => .nw (.lst (cutD ds lo hi))
  | .clst ds => .nw (.lst (cutD ds lo hi))
  | .ftup ds => if HT.sIx ds.length 0 lo = 0 ∧ HT.sIx ds.length ds.length hi = ds.length then .sh (.ftup ds) else .sh (.tup (cutD ds lo hi))
  | _ => .no
def cOpt : Option Sm → (Option Int → Sm) → Sm
  | none, k => k none
  | some m, k => fun l g => (m l g).bind fun x _ l g => match x with
    | .int i => k (some i) l g
    | _ => .no
def cSl (o : Opd) (lo hi : Option Sm) : Sm := match o with
  | .ev m => fun l g => (m l g).bind fun x _ l g => cOpt lo (fun a => cOpt hi fun b l g => lift (dSl (x.cont g) a b) l g) l g
  | .pk i => fun l g => match slotD l i with
    | none => .no
    | some _ => cOpt lo (fun a => cOpt hi fun b l g => match slotD l i with
      | some x => lift (dSl (x.cont g) a b) l g
      | none => .no) l g
inductive SP (X : Cx) : Option Expr → Option Sm → Prop
  | none : SP X none none
  | some {e : Expr} {m : Sm} : SE X e m → SP X (some e) (some m)
section
variable {X : Cx} {K : PySem.W.Frag} {W : Wd} {H : Hp} {σ : L2.St} {l : Lc} {g : Gs} {e : Expr} {pos : Pos}
theorem so_opt {eo : Option Expr} {mo : Option Sm} {k : Option Int → Sm} {Q : VK} {R : Option Int → Hp → Prop} (h : SP X eo mo) (ok : Ok X.K W l g σ H) (p : EPost X.K W H σ l (cOpt mo k l g) Q)
    (go : ∀ i l1 g1 W1 H1, EPost X.K W1 H1 σ l1 (k i l1 g1) Q → Ok X.K W1 l1 g1 σ H1 → Fr W H (OwnA l σ) W1 H1 (OwnA l1 σ) → R i H1) : ∃ t, PO X eo t ∧ t σ H R := by
  cases h with
  | none => exact ⟨_, po_none, go none l g W H p ok Fr.refl⟩
  | some h =>
    refine ⟨_, po_some pe_w, h.bindV ok p fun d f l1 g1 v W1 H1 p1 ok1 fr1 le1 den => ?_⟩
    cases d with
    | int i => cases den; exact ⟨i, rfl, go (some i) l1 g1 W1 H1 p1 ok1 fr1⟩
    | _ => exact False.elim p1
def rSlA3 (K : PySem.W.Frag) : V → Option Int → Option Int → Hp → VK → Prop := fun x lo hi H Q => rSlS x lo hi H Q ∨ (rSlA K x lo hi H Q ∨ rSlL K x lo hi H Q)
theorem sl_all : SlR X (rSlA3 X.K) := sl_str.or (sl_tupA.or sl_list)
theorem DenL.cut {xs : List V} {ds : List D} (h : DenL K W H xs ds) (lo hi : Option Int) : DenL K W H (cutV xs lo hi) (cutD ds lo hi) := by
  unfold cutV cutD
  rw [h.length]
  exact (h.drop _).take _
theorem sl_ok {v : V} {x : D} {lo hi : Option Int} {Q : VK} (c : Con K W H v x) (o : Out K W H (dSl x lo hi) Q) : rSlA3 K v lo hi H Q := by
  unfold dSl at o
  split at o
  · cases c.str
    obtain ⟨h, o⟩ := o.ite
    exact .inl ⟨_, rfl, h, o.str⟩
  · rename_i ds
    obtain ⟨a, xs, rfl, hp, hx⟩ := c.tupS
    refine .inr (.inl ⟨a, xs, rfl, SqT.of hp, fun ⟨h1, h2⟩ => ?_, fun _ p hpn => o _ _ (.tup hpn (hx.cut lo hi))⟩)
    have e : cutD ds lo hi = ds := by
      rw [hx.length] at h1 h2
      unfold cutD
      rw [h1, h2]; simp
    rw [e] at o
    exact o _ _ (.same (.tup hp hx))
  · obtain ⟨a, xs, rfl, hp, hx⟩ := c.lst
    exact .inr (.inr ⟨a, xs, rfl, hp, fun p hpn => o _ _ (.lst hpn (hx.cut lo hi))⟩)
  · obtain ⟨a, xs, rfl, hp, hx⟩ := c.clst
    exact .inr (.inr ⟨a, xs, rfl, hp.sq, fun p hpn => o _ _ (.lst hpn (hx.cut lo hi))⟩)
  · rename_i ds
    obtain ⟨a, xs, ob, rfl, hp, hc, hd, hx⟩ := c.ftupS
    refine .inr (.inl ⟨a, xs, rfl, .inl (.inr ⟨ob, hp⟩), fun ⟨h1, h2⟩ => ?_, fun hn p hpn => ?_⟩)
    · rw [hx.length] at h1 h2
      rw [if_pos ⟨h1, h2⟩] at o
      exact o _ _ (.same (.ftup hp hc hd hx))
    · rw [hx.length] at hn
      rw [if_neg hn] at o
      exact o _ _ (.tup hpn (hx.cut lo hi))
  · exact False.elim o
theorem se_slice {o : Opd} {lo hi : Option Expr} {ml mh : Option Sm} {p2 : Pos} (he : SO X e o) (hl : SP X lo ml) (hh : SP X hi mh) : SE X (.Subscript e (.Slice lo hi none p2) pos) (cSl o ml mh) := by
  intro σ H W l g Q ok p
  cases he with
  | ev he =>
    have key : ∃ tl th, PO X lo tl ∧ PO X hi th ∧ tW X e σ H fun x H1 => tl σ H1 fun a H2 => th σ H2 fun b H3 => rSlA3 X.K x a b H3 Q := by
      refine ⟨fun σ' H' R => ∃ t, PO X lo t ∧ t σ' H' R, fun σ' H' R => ∃ t, PO X hi t ∧ t σ' H' R, ⟨fun pins s σ' H' R I ⟨t, ht, q⟩ => ht.run pins s σ' H' R I q⟩, ⟨fun pins s σ' H' R I ⟨t, ht, q⟩ => ht.run pins s σ' H' R I q⟩, ?_⟩
      refine he.bindV ok p fun d f l1 g1 v W1 H1 p1 ok1 fr1 le1 den => ?_
      refine so_opt hl ok1 p1 fun i l2 g2 W2 H2 p2 ok2 fr2 => ?_
      refine so_opt hh ok2 p2 fun j l3 g3 W3 H3 p3 ok3 fr3 => ?_
      exact sl_ok (Con.of_den ok3.rep ((den.le (ok1.le fr2)).le (ok2.le fr3))) (lift_out ok3 p3)
    obtain ⟨tl, th, h1, h2, q⟩ := key
    exact tW.of (pe_slice sl_all pe_w h1 h2) q
  | @pk i he =>
    have key : ∃ tl th, PO X lo tl ∧ PO X hi th ∧ tVar i σ H fun x H1 => tl σ H1 fun a H2 => th σ H2 fun b H3 => rSlA3 X.K x a b H3 Q := by
      refine ⟨fun σ' H' R => ∃ t, PO X lo t ∧ t σ' H' R, fun σ' H' R => ∃ t, PO X hi t ∧ t σ' H' R, ⟨fun pins s σ' H' R I ⟨t, ht, q⟩ => ht.run pins s σ' H' R I q⟩, ⟨fun pins s σ' H' R I ⟨t, ht, q⟩ => ht.run pins s σ' H' R I q⟩, ?_⟩
      simp only [cSl] at p
      cases e0 : slotD l i with
      | none => rw [e0] at p; exact False.elim p
      | some x0 =>
        rw [e0] at p
        obtain ⟨v, ev⟩ := slot_some ok.loc e0
        refine ⟨v, ev, so_opt hl ok p fun i' l2 g2 W2 H2 p2 ok2 fr2 => ?_⟩
        refine so_opt hh ok2 p2 fun j l3 g3 W3 H3 p3 ok3 fr3 => ?_
        cases e1 : slotD l3 i with
        | none => simp only [e1] at p3; exact False.elim p3
        | some x =>
          simp only [e1] at p3
          exact sl_ok (Con.slot ok3 ev e1) (lift_out ok3 p3)
    obtain ⟨tl, th, h1, h2, q⟩ := key
    exact tW.of (pe_slice sl_all he h1 h2) q
end
end Y
namespace Y
variable [TabC]
open PySem L2

section
variable {X : Cx} {K : PySem.W.Frag} {W : Wd} {H : Hp} {σ : L2.St} {l : Lc} {g : Gs} {e a b : Expr} {pos p0 : Pos} {x : Str}
/-- a built-in name -/
structure Bn (X : Cx) (x : Str) : Prop where
  gl : Gl X x
  mg : X.mg x = none
  nn : x ≠ "__name__"
  db : (x == ("__debug__" : Str)) = false
def Star1 (X : Cx) (e : Expr) : Prop := ∀ es, starEach (e :: es) X.env = (false, eval e X.env) :: starEach es X.env
theorem pa_1 {t : TE} (h : PE X e t) (hs : Star1 X e) : PA X [e] (tCons t tNil) := pa_cons h pa_nil (hs [])
/-- a built-in function or type of one argument -/
def P1 (K : PySem.W.Frag) (r : List V → Hp → VK → Prop) (f : D → PR) : Prop := ∀ (v : V) (d : D) (W : Wd) (H : Hp) (Q : VK), Con K W H v d → Out K W H (f d) Q → r [v] H Q
theorem se_b1 {id : String} {r : List V → Hp → VK → Prop} {f : D → PR} {o : Opd} (hc : CallR X (.builtin id) r) (hf : P1 X.K r f) (bn : Bn X x) (hv : bootBuiltins x = some (.builtin id)) (hs : Star1 X a) (ha : SO X a o) :
    SE X (.Call (.Name x p0) [a] [] pos) (cU f o) := by
  intro σ H W l g Q ok p
  obtain ⟨t, pe, ht⟩ := su (R := fun v H1 => r [v] H1 Q) o ha ok p fun v d W1 H1 c o => hf v d W1 H1 Q c o
  exact tW.of (pe_callB hc bn.gl bn.mg hv (pa_1 pe hs) bn.nn bn.db (hs []) rfl) ht
theorem se_t1 {T : String} {r : List V → Hp → VK → Prop} {f : D → PR} {o : Opd} (hc : CallR X (.type T) r) (hf : P1 X.K r f) (bn : Bn X x) (hv : bootBuiltins x = some (.type T)) (hs : Star1 X a) (ha : SO X a o) :
    SE X (.Call (.Name x p0) [a] [] pos) (cU f o) := by
  intro σ H W l g Q ok p
  obtain ⟨t, pe, ht⟩ := su (R := fun v H1 => r [v] H1 Q) o ha ok p fun v d W1 H1 c o => hf v d W1 H1 Q c o
  exact tW.of (pe_callTy hc bn.gl bn.mg hv (pa_1 pe hs) bn.nn bn.db (hs []) rfl) ht
/-- .. of two -/
def P2c (K : PySem.W.Frag) (r : List V → Hp → VK → Prop) (f : D → D → PR) : Prop := ∀ (v u : V) (d e : D) (W : Wd) (H : Hp) (Q : VK), Con K W H v d → Con K W H u e → Out K W H (f d e) Q → r [v, u] H Q
theorem se_b2 {id : String} {r : List V → Hp → VK → Prop} {f : D → D → PR} {oa ob : Opd} (hc : CallR X (.builtin id) r) (hf : P2c X.K r f) (bn : Bn X x) (hv : bootBuiltins x = some (.builtin id)) (hs : Star1 X a) (hs' : Star1 X b) (ha : SO X a oa) (hb : SO X b ob) :
    SE X (.Call (.Name x p0) [a, b] [] pos) (c2 f oa ob) := by
  intro σ H W l g Q ok p
  obtain ⟨ta, tb, pa, pb, t⟩ := s2 (R := fun x y H2 => r [x, y] H2 Q) oa ob ha hb ok p fun v u x y W2 H2 c1 c2 o => hf v u x y W2 H2 Q c1 c2 o
  refine tW.of (pe_callB hc bn.gl bn.mg hv (pa_cons pa (pa_cons pb pa_nil (hs' [])) (hs [b])) bn.nn bn.db (hs [b]) ?_) t
  rw [hs' []]; rfl

/-! ### len, all, any, sum -/
def dLen : D → PR
  | .str x => if x.length ≤ sizeLine then .sh (.int x.length) else .no
  | .tup ds => .sh (.int ds.length)
  | .lst ds => .sh (.int ds.length)
  | .dct ps => .sh (.int ps.length)
  | .ctup ds => .sh (.int ds.length)
  | .clst ds => .sh (.int ds.length)
  | .ftup ds => .sh (.int ds.length)
  | .dcu ps => .sh (.int ps.length)
  | _ => .no
theorem DenP.length {vs : List (Key × V)} {ps : List (D × D)} (h : DenP K W H vs ps) : vs.length = ps.length := by
  induction ps generalizing vs with
  | nil => cases h; rfl
  | cons p ps ih => cases h with | cons _ _ h => simp [ih h]
def rLen (K : PySem.W.Frag) : List V → Hp → VK → Prop := fun xs H Q => (∃ x n, xs = [x] ∧ LenV K x H n ∧ Q (.int n) H) ∨ (∃ a kvs, xs = [.ref a] ∧ Rd H a (.dK kvs) ∧ Q (.int kvs.length) H) ∨ (∃ (p : Addr) (kvs : List (List Key × V)), xs = [.ref p] ∧ Rd H p (.dT kvs) ∧ Q (.int ((kvs.length : Nat) : Int)) H)
theorem call_len_dTR : CallR X (.builtin "len") (fun xs H Q => ∃ (p : Addr) (kvs : List (List Key × V)), xs = [.ref p] ∧ Rd H p (.dT kvs) ∧ Q (.int ((kvs.length : Nat) : Int)) H) := by
  intro pins s σ H xs us Q I r h
  obtain ⟨p, kvs, rfl, hp, q⟩ := h
  obtain ⟨u, rfl, ru⟩ := Vals.one r
  cases ru
  obtain ⟨z, hd, ys, rel, dd⟩ := dt_rd I.hok hp
  have hl : kvs.length = ys.length := Paired.length rel
  refine call_len_dictH hd dd (by rw [← hl]; rw [sizeLine_eq] at z; omega) ?_
  rw [← hl]
  exact ⟨.int ((kvs.length : Nat) : Int), H, I.tok _, ⟨_, rfl⟩, q⟩
theorem call_lenA : CallR X (.builtin "len") (rLen X.K) := by
  refine call_len.or (CallR.or ?_ call_len_dTR)
  intro pins s σ H xs us Q I r h
  obtain ⟨a, kvs, rfl, hr, q⟩ := h
  obtain ⟨u, rfl, ru⟩ := Vals.one r
  cases ru
  exact d_len I hr fun t s' I' => ⟨.int _, H, I', ⟨t, rfl⟩, q⟩
theorem p1_len : P1 K (rLen K) dLen := by
  intro v d W H Q c o
  unfold dLen at o
  split at o
  · cases c.str
    obtain ⟨h, o⟩ := o.ite
    exact .inl ⟨_, _, rfl, ⟨h, rfl⟩, o.int⟩
  · obtain ⟨a, xs, rfl, h1, h2⟩ := c.tup
    exact .inl ⟨_, xs.length, rfl, .inr ⟨xs, h1, rfl⟩, by rw [h2.length]; exact Out.int o⟩
  · obtain ⟨a, xs, rfl, h1, h2⟩ := c.lst
    exact .inl ⟨_, xs.length, rfl, .inl ⟨xs, h1, rfl⟩, by rw [h2.length]; exact Out.int o⟩
  · obtain ⟨a, xs, rfl, h1, h2⟩ := c.dct
    exact .inr (.inl ⟨a, xs, rfl, h1, by rw [h2.length]; exact Out.int o⟩)
  · obtain ⟨a, xs, rfl, h1, h2⟩ := c.ctup
    exact .inl ⟨_, xs.length, rfl, .inr ⟨xs, h1, rfl⟩, by rw [h2.length]; exact Out.int o⟩
  · obtain ⟨a, xs, rfl, h1, h2⟩ := c.clst
    exact .inl ⟨_, xs.length, rfl, .inl ⟨xs, h1.sq, rfl⟩, by rw [h2.length]; exact Out.int o⟩
  · obtain ⟨a, xs, rfl, h1, h2⟩ := c.ftup
    exact .inl ⟨_, xs.length, rfl, .inr ⟨xs, h1, rfl⟩, by rw [h2.length]; exact Out.int o⟩
  · obtain ⟨a, xs, rfl, h1, h2⟩ := c.dcu
    exact .inr (.inr ⟨a, xs, rfl, h1, by rw [h2.len]; exact Out.int o⟩)
  · exact False.elim o
def blsOf : List D → Option (List Bool)
  | [] => some []
  | .bl b :: ds => (blsOf ds).map (b :: ·)
  | _ => none
theorem bls_den : ∀ {ds : List D} {xs : List V} {bs : List Bool}, DenL K W H xs ds → blsOf ds = some bs → xs = bs.map V.bl
  | [], _, _, h, e => by cases h; cases e; rfl
  | d :: ds, _, bs, h, e => by
    cases h with
    | cons h1 h2 =>
      cases d with
      | bl b =>
        rw [blsOf, Option.map_eq_some_iff] at e
        obtain ⟨bs', e', rfl⟩ := e
        cases h1
        rw [bls_den h2 e']; rfl
      | _ => cases e
def dAll : D → PR
  | .lst ds => .bl ((blsOf ds).map fun bs => bs.all id)
  | _ => .no
def dAny : D → PR
  | .lst ds => .bl ((blsOf ds).map fun bs => bs.any id)
  | _ => .no
theorem p1_all : P1 K (rAll K) dAll := by
  intro v d W H Q c o
  unfold dAll at o
  split at o
  · obtain ⟨b, e, q⟩ := Out.ofBl o
    rw [Option.map_eq_some_iff] at e
    obtain ⟨bs, e, rfl⟩ := e
    obtain ⟨a, xs, rfl, h1, h2⟩ := c.lst
    rw [bls_den h2 e] at h1
    exact ⟨a, bs, rfl, h1, q⟩
  · exact False.elim o
theorem p1_any : P1 K (rAny K) dAny := by
  intro v d W H Q c o
  unfold dAny at o
  split at o
  · obtain ⟨b, e, q⟩ := Out.ofBl o
    rw [Option.map_eq_some_iff] at e
    obtain ⟨bs, e, rfl⟩ := e
    obtain ⟨a, xs, rfl, h1, h2⟩ := c.lst
    rw [bls_den h2 e] at h1
    exact ⟨a, bs, rfl, h1, q⟩
  · exact False.elim o
def intsOf : List D → Option (List Int)
  | [] => some []
  | .int b :: ds => (intsOf ds).map (b :: ·)
  | _ => none
theorem ints_den : ∀ {ds : List D} {xs : List V} {bs : List Int}, DenL K W H xs ds → intsOf ds = some bs → xs = bs.map V.int
  | [], _, _, h, e => by cases h; cases e; rfl
  | d :: ds, _, bs, h, e => by
    cases h with
    | cons h1 h2 =>
      cases d with
      | int b =>
        rw [intsOf, Option.map_eq_some_iff] at e
        obtain ⟨bs', e', rfl⟩ := e
        cases h1
        rw [ints_den h2 e']; rfl
      | _ => cases e
def strsOf : List D → Option (List Str)
  | [] => some []
  | .str b :: ds => (strsOf ds).map (b :: ·)
  | _ => none
theorem strs_den : ∀ {ds : List D} {xs : List V} {bs : List Str}, DenL K W H xs ds → strsOf ds = some bs → xs = bs.map V.str
  | [], _, _, h, e => by cases h; cases e; rfl
  | d :: ds, _, bs, h, e => by
    cases h with
    | cons h1 h2 =>
      cases d with
      | str b =>
        rw [strsOf, Option.map_eq_some_iff] at e
        obtain ⟨bs', e', rfl⟩ := e
        cases h1
        rw [strs_den h2 e']; rfl
      | _ => cases e
def dSum : D → PR
  | .lst ds => match intsOf ds with
    | some ns => .sh (.int ns.sum)
    | none => .no
  | _ => .no
theorem p1_sum : P1 K (rSum K) dSum := by
  intro v d W H Q c o
  unfold dSum at o
  split at o
  · split at o
    · rename_i ns e
      obtain ⟨a, xs, rfl, h1, h2⟩ := c.lst
      rw [ints_den h2 e] at h1
      exact ⟨a, ns, rfl, h1, o.int⟩
    · exact False.elim o
  · exact False.elim o
/-! ### int, min, max -/
def dInt : D → PR
  | .int i => .sh (.int i)
  | .bl b => .sh (.int (if b then 1 else 0))
  | .str a => if a.length ≤ 640 then (match PySem.intText? a with | some n => .sh (.int n) | none => .no) else .no
  | _ => .no
def rInt : List V → Hp → VK → Prop := fun xs H Q => ((∃ i, xs = [.int i] ∧ Q (.int i) H) ∨ ∃ k, xs = [.bl k] ∧ Q (.int (if k then 1 else 0)) H) ∨ (∃ a n, xs = [.str a] ∧ PySem.intText? a = some n ∧ a.length ≤ 640 ∧ Q (.int n) H)
theorem call_intA : CallR X (.type "int") rInt := call_int1.or call_int_str
theorem p1_int : P1 K rInt dInt := by
  intro v d W H Q c o
  unfold dInt at o
  split at o
  · cases c.int; exact .inl (.inl ⟨_, rfl, o.int⟩)
  · cases c.bl; exact .inl (.inr ⟨_, rfl, o.int⟩)
  · cases c.str
    obtain ⟨h, o⟩ := o.ite
    split at o
    · rename_i n e
      exact .inr ⟨_, n, rfl, e, h, o.int⟩
    · exact False.elim o
  · exact False.elim o
def dStr : D → PR
  | .int i => if i.natAbs.log2 < 1920 then .sh (.str (toString i)) else .no
  | .str z => .sh (.str z)
  | _ => .no
theorem p1_str : P1 K (fun xs H Q => (∃ i, xs = [.int i] ∧ i.natAbs.log2 < 1920 ∧ Q (.str (toString i)) H) ∨ ∃ a, xs = [.str a] ∧ Q (.str a) H) dStr := by
  intro v d W H Q c o
  unfold dStr at o
  split at o
  · left
    cases c.int
    obtain ⟨h, o⟩ := o.ite
    exact ⟨_, rfl, h, o.str⟩
  · right
    cases c.str
    exact ⟨_, rfl, o.str⟩
  · exact False.elim o
def dMax2 : D → D → PR
  | .int i, .int j => .sh (.int (if j > i then j else i))
  | _, _ => .no
def dMin2 : D → D → PR
  | .int i, .int j => .sh (.int (if j < i then j else i))
  | _, _ => .no
theorem p2_max : P2c K (fun xs H Q => ∃ i j, xs = [.int i, .int j] ∧ Q (.int (if j > i then j else i)) H) dMax2 := by
  intro v u x y W H Q c1 c2 o
  unfold dMax2 at o
  split at o
  · cases c1.int; cases c2.int; exact ⟨_, _, rfl, o.int⟩
  · exact False.elim o
theorem p2_min : P2c K (fun xs H Q => ∃ i j, xs = [.int i, .int j] ∧ Q (.int (if j < i then j else i)) H) dMin2 := by
  intro v u x y W H Q c1 c2 o
  unfold dMin2 at o
  split at o
  · cases c1.int; cases c2.int; exact ⟨_, _, rfl, o.int⟩
  · exact False.elim o
/-! ### tuple(..), list(..) -/
def dTuple : D → PR
  | .lst ds => .sh (.tup ds)
  | .tup ds => .sh (.tup ds)
  | .ftup ds => .sh (.ftup ds)
  | _ => .no
def rTupOf (K : PySem.W.Frag) : List V → Hp → VK → Prop := fun xs H Q => ∃ p ys, xs = [.ref p] ∧ ((SqL K H p ys ∧ ∀ l, H l = none → Q (.ref l) (upd H l (.tup ys))) ∨ (SqT K H p ys ∧ Q (.ref p) H))
theorem p1_tuple : P1 K (rTupOf K) dTuple := by
  intro v d W H Q c o
  unfold dTuple at o
  split at o
  · obtain ⟨a, xs, rfl, h1, h2⟩ := c.lst
    exact ⟨a, xs, rfl, .inl ⟨h1, fun p hp => o _ _ (.tup hp h2)⟩⟩
  · obtain ⟨a, xs, rfl, h1, h2⟩ := c.tupS
    exact ⟨a, xs, rfl, .inr ⟨SqT.of h1, o _ _ (.same (.tup h1 h2))⟩⟩
  · obtain ⟨a, xs, ob, rfl, h1, hc, hd, h2⟩ := c.ftupS
    exact ⟨a, xs, rfl, .inr ⟨.inl (.inr ⟨ob, h1⟩), o _ _ (.same (.ftup h1 hc hd h2))⟩⟩
  · exact False.elim o
def dList : D → PR
  | .lst ds => .nw (.lst ds)
  | .tup ds => .nw (.lst ds)
  | .ctup ds => .nw (.lst ds)
  | .clst ds => .nw (.lst ds)
  | .ftup ds => .nw (.lst ds)
  | .dct ps => .nw (.lst (ps.map (·.1)))
  | .dcu ps => .nw (.lst (ps.map (·.1)))
  | _ => .no
theorem DenP.keys {kvs : List (Key × V)} {ps : List (D × D)} (h : DenP K W H kvs ps) : DenL K W H (kvs.map fun kv => kV kv.1) (ps.map (·.1)) := by
  induction ps generalizing kvs with
  | nil => cases h; exact .nil
  | cons p ps ih => cases h with | cons h1 _ h => exact .cons h1 (ih h)
theorem DenU.keys {kvs : List (List Key × V)} {ps : List (D × D)} {bs : List Addr} (h : DenU K W H kvs ps) (hb : IsKeys H kvs bs) : DenL K W H (bs.map V.ref) (ps.map (·.1)) := by
  unfold IsKeys at hb
  induction ps generalizing kvs bs with
  | nil => cases h; cases hb; exact .nil
  | cons p ps ih =>
    cases h with
    | cons h1 h =>
      cases hb with
      | cons e t => exact .cons (.tup e (DenL.ofKeys _)) (ih h t)
def rLstOf0 (K : PySem.W.Frag) : List V → Hp → VK → Prop := fun xs H Q => ∃ p ys, xs = [.ref p] ∧ (SqL K H p ys ∨ SqT K H p ys) ∧ ∀ l, H l = none → Q (.ref l) (upd H l (.lst ys))
def rLstOf (K : PySem.W.Frag) : List V → Hp → VK → Prop := fun xs H Q => (rLstOf0 K xs H Q ∨ ∃ (a : Addr) (kvs : List (Key × V)), xs = [.ref a] ∧ Rd H a (.dK kvs) ∧ ∀ p, H p = none → Q (.ref p) (upd H p (.lst (kvs.map fun kv => kV kv.1)))) ∨
  ∃ d kvs, xs = [V.ref d] ∧ Rd H d (.dT kvs) ∧ ∀ p bs, H p = none → IsKeys H kvs bs → Q (.ref p) (upd H p (.lst (bs.map V.ref)))
theorem call_listA {X : Cx} (hc : X.calm = true) : CallR X (.type "list") (rLstOf X.K) := ((call_list_of (X := X)).or (call_listD hc)).or (call_list_dT hc)
theorem p1_list : P1 K (rLstOf K) dList := by
  intro v d W H Q c o
  unfold dList at o
  split at o
  · obtain ⟨a, xs, rfl, h1, h2⟩ := c.lst
    exact .inl (.inl ⟨a, xs, rfl, .inl h1, fun p hp => o _ _ (.lst hp h2)⟩)
  · obtain ⟨a, xs, rfl, h1, h2⟩ := c.tup
    exact .inl (.inl ⟨a, xs, rfl, .inr h1, fun p hp => o _ _ (.lst hp h2)⟩)
  · obtain ⟨a, xs, rfl, h1, h2⟩ := c.ctup
    exact .inl (.inl ⟨a, xs, rfl, .inr h1, fun p hp => o _ _ (.lst hp h2)⟩)
  · obtain ⟨a, xs, rfl, h1, h2⟩ := c.clst
    exact .inl (.inl ⟨a, xs, rfl, .inl h1.sq, fun p hp => o _ _ (.lst hp h2)⟩)
  · obtain ⟨a, xs, rfl, h1, h2⟩ := c.ftup
    exact .inl (.inl ⟨a, xs, rfl, .inr h1, fun p hp => o _ _ (.lst hp h2)⟩)
  · obtain ⟨a, xs, rfl, h1, h2⟩ := c.dct
    exact .inl (.inr ⟨a, xs, rfl, h1, fun p hp => o _ _ (.lst hp h2.keys)⟩)
  · obtain ⟨a, xs, rfl, h1, h2⟩ := c.dcu
    exact .inr ⟨a, xs, rfl, h1, fun p bs hp hb => o _ _ (.lst hp (h2.keys hb))⟩
  · exact False.elim o
/-! ### isinstance -/
def tyName : D → Option String
  | .non => some "NoneType"
  | .bl _ => some "bool"
  | .int _ => some "int"
  | .str _ => some "str"
  | .tup _ => some "tuple"
  | .ftup _ => some "tuple"
  | .lst _ => some "list"
  | .dct _ => some "dict"
  | _ => none
def isInst (T : String) (d : D) : PR := match tyName d with
  | some t => .bl (kitB t T)
  | none => .no
theorem tyX_of {v : V} {d : D} {t : String} (c : Con K W H v d) (e : tyName d = some t) : TyX K H v (.type t) := by
  cases d with
  | non => cases c.non; cases e; exact .base .non
  | bl b => cases c.bl; cases e; exact .base (.bl b)
  | int i => cases c.int; cases e; exact .base (.int i)
  | str x => cases c.str; cases e; exact .base (.str x)
  | tup ds =>
    obtain ⟨a, xs, rfl, h1, h2⟩ := c.tup
    cases e
    rcases h1 with (h1 | ⟨o, h1⟩) | ⟨o, its, n, hk, hc, _⟩
    · exact .base (.tup h1)
    · exact .fTuple h1
    · exact .kTuple hk hc
  | ftup ds =>
    obtain ⟨a, xs, rfl, h1, h2⟩ := c.ftup
    cases e
    rcases h1 with (h1 | ⟨o, h1⟩) | ⟨o, its, n, hk, hc, _⟩
    · exact .base (.tup h1)
    · exact .fTuple h1
    · exact .kTuple hk hc
  | lst ds =>
    obtain ⟨a, xs, rfl, h1, h2⟩ := c.lst
    cases e
    rcases h1 with (h1 | ⟨o, h1⟩) | ⟨o, its, n, hk, hc, _⟩
    · exact .base (.lst h1)
    · exact .base (.frz h1)
    · exact .kList hk hc
  | dct ds =>
    obtain ⟨a, xs, rfl, h1, h2⟩ := c.dct
    cases e
    rcases h1 with h1 | ⟨o, h1⟩
    · exact .base (.dK h1)
    · exact .fDict h1
  | _ => cases e
theorem se_isinst {T : String} {xT : Str} {pT : Pos} {o : Opd} (bn : Bn X "isinstance") (bt : Bn X xT) (hT : bootBuiltins xT = some (.type T)) (hs : Star1 X a) (ha : SO X a o) :
    SE X (.Call (.Name "isinstance" p0) [a, .Name xT pT] [] pos) (cU (isInst T) o) := by
  intro σ H W l g Q ok p
  obtain ⟨t, pe, ht⟩ := su (R := fun v H1 => rIsi X.K [v, .ty T] H1 Q) o ha ok p fun v d W1 H1 c o => by
    unfold isInst at o
    split at o
    · rename_i t e
      obtain ⟨b, e', q⟩ := Out.ofBl o
      exact ⟨v, .ty T, .type t, .type T, b, rfl, .ty T, tyX_of c e, kit_ty e', q⟩
    · exact False.elim o
  have hn : PE X (.Name xT pT) (tC (.ty T)) := pe_bltn bt.gl bt.mg hT rfl bt.nn bt.db
  exact tW.of (pe_callB call_isi bn.gl bn.mg PyProof.Rows.boot_isinstance (pa_cons pe (pa_cons hn pa_nil) (hs [.Name xT pT])) bn.nn bn.db (hs [.Name xT pT]) rfl) ht
end

/-! ### methods of texts -/
section
variable {X : Cx} {K : PySem.W.Frag} {W : Wd} {H : Hp} {σ : L2.St} {l : Lc} {g : Gs} {e a b o : Expr} {pos p0 apos : Pos} {x : Str}
def cStr1 (f : Str → D → PR) (m : Sm) (b : Opd) : Sm := fun l g => (m l g).bind fun x _ l g => match x with
  | .str z => cU (f z) b l g
  | _ => .no
def cStr0 (f : Str → PR) (m : Sm) : Sm := fun l g => (m l g).bind fun x _ l g => match x with
  | .str z => lift (f z) l g
  | _ => .no
/-- what a method call's text must be like -/
structure MB (X : Cx) (o : Expr) (name : Str) (apos pos : Pos) : Prop where
  base : attributeBase o name X.env (eval o X.env) = eval o X.env
  line : (apos.endLine == pos.line) = true
def PM1 (K : PySem.W.Frag) (r : V → List V → Hp → VK → Prop) (f : Str → D → PR) : Prop := ∀ (z : Str) (v : V) (d : D) (W : Wd) (H : Hp) (Q : VK), Con K W H v d → Out K W H (f z d) Q → r (.str z) [v] H Q
theorem se_str1 {id : String} {name : Str} {r : V → List V → Hp → VK → Prop} {f : Str → D → PR} {m : Sm} {ob : Opd} (slot : Slot "str" name id) (ty : typeOf (.builtin id) = pure (.type "method_descriptor")) (rule : MtR X id r) (hf : PM1 X.K r f)
    (mb : MB X o name apos pos) (hs : Star1 X a) (ho : SE X o m) (ha : SO X a ob) : SE X (.Call (.Attribute o name apos) [a] [] pos) (cStr1 f m ob) := by
  intro σ H W l g Q ok p
  have key : ∃ ta, PE X a ta ∧ tW X o σ H fun x H1 => (∃ a, x = .str a) ∧ ta σ H1 fun y H2 => r x [y] H2 Q := by
    refine ⟨fun σ' H' R => ∃ t, PE X a t ∧ t σ' H' R, ⟨fun pins s σ' H' R I ⟨t, ht, q⟩ => ht.run pins s σ' H' R I q⟩, ?_⟩
    refine ho.bindV ok p fun d f l1 g1 v W1 H1 p1 ok1 fr1 le1 den => ?_
    cases d with
    | str z =>
      cases den
      exact ⟨⟨z, rfl⟩, su (R := fun y H2 => r (.str z) [y] H2 Q) ob ha ok1 p1 fun v d W2 H2 c o => hf z v d W2 H2 Q c o⟩
    | _ => exact False.elim p1
  obtain ⟨ta, h1, q⟩ := key
  exact tW.of (pe_m1 slot ty rule pe_w h1 (hs []) mb.base mb.line) q
def PM0 (K : PySem.W.Frag) (r : V → List V → Hp → VK → Prop) (f : Str → PR) : Prop := ∀ (z : Str) (W : Wd) (H : Hp) (Q : VK), Out K W H (f z) Q → r (.str z) [] H Q
theorem se_str0 {id : String} {name : Str} {r : V → List V → Hp → VK → Prop} {f : Str → PR} {m : Sm} (slot : Slot "str" name id) (ty : typeOf (.builtin id) = pure (.type "method_descriptor")) (rule : MtR X id r) (hf : PM0 X.K r f)
    (mb : MB X o name apos pos) (ho : SE X o m) : SE X (.Call (.Attribute o name apos) [] [] pos) (cStr0 f m) := by
  intro σ H W l g Q ok p
  refine tW.of (pe_m0 slot ty rule pe_w mb.base mb.line) (ho.bindV ok p fun d f l1 g1 v W1 H1 p1 ok1 fr1 le1 den => ?_)
  cases d with
  | str z =>
    cases den
    exact ⟨⟨z, rfl⟩, hf z W1 H1 Q (lift_out ok1 p1)⟩
  | _ => exact False.elim p1
def dJoin (z : Str) : D → PR
  | .lst ds => match strsOf ds with
    | some ys => if (ys.map (·.length)).sum + ys.length * z.length ≤ 16777216 then .sh (.str (Txt.join z ys)) else .no
    | none => .no
  | .tup ds => match strsOf ds with
    | some ys => if (ys.map (·.length)).sum + ys.length * z.length ≤ 16777216 then .sh (.str (Txt.join z ys)) else .no
    | none => .no
  | .ftup ds => match strsOf ds with
    | some ys => if (ys.map (·.length)).sum + ys.length * z.length ≤ 16777216 then .sh (.str (Txt.join z ys)) else .no
    | none => .no
  | _ => .no
theorem pm_join : PM1 K (fun x xs H Q => ∃ a p, ∃ ys : List Str, x = .str a ∧ xs = [.ref p] ∧ (SqL K H p (ys.map V.str) ∨ SqT K H p (ys.map V.str)) ∧
      (ys.map (·.length)).sum + ys.length * a.length ≤ 16777216 ∧ Q (.str (Txt.join a ys)) H) dJoin := by
  intro z v d W H Q c o
  unfold dJoin at o
  split at o
  · split at o
    · rename_i ys e
      obtain ⟨h, o⟩ := o.ite
      obtain ⟨a, xs, rfl, h1, h2⟩ := c.lst
      rw [strs_den h2 e] at h1
      exact ⟨z, a, ys, rfl, rfl, .inl h1, h, o.str⟩
    · exact False.elim o
  · split at o
    · rename_i ys e
      obtain ⟨h, o⟩ := o.ite
      obtain ⟨a, xs, rfl, h1, h2⟩ := c.tup
      rw [strs_den h2 e] at h1
      exact ⟨z, a, ys, rfl, rfl, .inr h1, h, o.str⟩
    · exact False.elim o
  · split at o
    · rename_i ys e
      obtain ⟨h, o⟩ := o.ite
      obtain ⟨a, xs, rfl, h1, h2⟩ := c.ftup
      rw [strs_den h2 e] at h1
      exact ⟨z, a, ys, rfl, rfl, .inr h1, h, o.str⟩
    · exact False.elim o
  · exact False.elim o
end
end Y
namespace Y
variable [TabC]
open PySem L2
/-! ### * -/
def mulS (z : Str) (n : Int) : Str := if n < 1 then Str.empty else if (n == 1 || z.length == 0) = true then z else ⟨(List.replicate n.toNat z.cps).foldl (· ++ ·) #[]⟩
def dMul3 : D → D → PR
  | .int a, .int b => if fitsMul a b then .sh (.int (a * b)) else .no
  | .str z, .int n => if n ≤ 1000 ∧ -1000 ≤ n ∧ z.length ≤ 1000 then .sh (.str (mulS z n)) else .no
  | .tup ds, .int 1 => .sh (.tup ds)
  | .tup ds, .int n => if ds ≠ [] ∧ 2 ≤ n ∧ n ≤ 1000 ∧ ds.length ≤ 1000 then .sh (.tup (List.replicate n.toNat ds).flatten) else .no
  | .lst ds, .int n => if -1000 ≤ n ∧ n ≤ 1000 ∧ ds.length ≤ 1000 then .nw (.lst (List.replicate n.toNat ds).flatten) else .no
  | _, _ => .no
theorem size_foldl_rep (a : Array Nat) : ∀ (n : Nat) (acc : Array Nat), (List.foldl (fun x1 x2 => x1 ++ x2) acc (List.replicate n a)).size = acc.size + n * a.size
  | 0, acc => by simp
  | n + 1, acc => by
    rw [List.replicate_succ, List.foldl_cons, size_foldl_rep a n]
    rw [Array.size_append, Nat.succ_mul]; omega
section
variable {X : Cx} {K : PySem.W.Frag}
def rMulS : R2 := fun x y H Q => ∃ z n, x = .str z ∧ y = .int n ∧ (n ≤ 1000 ∧ -1000 ≤ n ∧ z.length ≤ 1000) ∧ Q (.str (mulS z n)) H
theorem op_mulS : OpR X (binaryOp .Mult) rMulS := by
  intro pins s σ H x y v u Q I rx ry h
  obtain ⟨z, n, rfl, rfl, ⟨h1, h2, h3⟩, q⟩ := h
  obtain ⟨t, rfl⟩ := rx
  obtain ⟨t', rfl⟩ := ry
  have hs := sizeLine_eq
  refine PySem.P.mul_str ?_ (fun g1 _ => ?_) (fun g1 _ => ?_) ?_
  · rw [decide_eq_false (by omega), decide_eq_false (by omega)]; rfl
  · have : (9223372036854775807 : Int) / 1000 ≤ (9223372036854775807 : Int) / n := by
      have hn : 0 < n := by omega
      rw [Int.le_ediv_iff_mul_le hn]
      omega
    have e : ((2 : Int) ^ 63 - 1) = 9223372036854775807 := by decide
    rw [e]
    omega
  · show decide (z.length * n.toNat > sizeLine) = false
    rw [decide_eq_false_iff_not]
    have : z.length * n.toNat ≤ 1000 * 1000 := Nat.mul_le_mul h3 (by omega)
    omega
  · unfold mulS at q
    by_cases c1 : n < 1
    · rw [if_pos c1] at q ⊢
      exact ⟨by decide, ⟨.str Str.empty, H, I.tok _, ⟨_, rfl⟩, q⟩⟩
    · rw [if_neg c1] at q ⊢
      by_cases c2 : (n == 1 || z.length == 0) = true
      · rw [if_pos c2] at q ⊢
        exact ⟨.str z, H, I, ⟨_, rfl⟩, q⟩
      · rw [if_neg c2] at q ⊢
        refine ⟨?_, ⟨.str _, H, I.tok _, ⟨_, rfl⟩, q⟩⟩
        show (List.foldl (fun x1 x2 => x1 ++ x2) #[] (List.replicate n.toNat z.cps)).size ≤ sizeLine
        rw [size_foldl_rep]
        have : n.toNat * z.cps.size ≤ 1000 * 1000 := Nat.mul_le_mul (by omega) h3
        simp only [Array.size_empty]
        omega
theorem DenL.rep {W : Wd} {H : Hp} {xs : List V} {ds : List D} (h : DenL K W H xs ds) : ∀ n : Nat, DenL K W H (List.replicate n xs).flatten (List.replicate n ds).flatten
  | 0 => .nil
  | n + 1 => by
    rw [List.replicate_succ, List.replicate_succ, List.flatten_cons, List.flatten_cons]
    exact h.append (DenL.rep h n)
section
open PySem.Spec PyProof.Rows
theorem tuple_mul1 (l : Addr) (items : Array Value) (n : Nat) (dd : Option Addr) (sl : Array (Option Value)) (u : Tok) :
    Meets (Builtin.«tuple.__mul__» ⟨[.ref l, .int 1 u], []⟩) (fun _ R s => s.heap.get? l = some { cls := .type "tuple", dict := dd, data := .seq items n, slots := sl } ∧ R (.ok (.ret (.ref l))) s) :=
  .of_wp fun prog w A R s h => by
    obtain ⟨hp, g, d, tk, os⟩ := s
    obtain ⟨hl, h⟩ := h
    have f1 := AutoSeq1.idx_int
    wp_walk using wpAny_loadPart' hl
    exact ⟨_, rfl, h⟩
def rRepT1 (K : PySem.W.Frag) : R2 := fun x y H Q => ∃ l xs, x = .ref l ∧ y = .int 1 ∧ SqT K H l xs ∧ Q (.ref l) H
theorem op_repT1 : OpR X (binaryOp .Mult) (rRepT1 X.K) := by
  intro pins s σ H x y v u Q I rx ry h
  obtain ⟨l, xs, rfl, rfl, hT, q⟩ := h
  cases rx
  obtain ⟨t, rfl⟩ := ry
  obtain ⟨its, r, ⟨⟨cls, dd, data, sl⟩, ho, hc, n, hd⟩, hs⟩ := I.tuple hT
  simp only at hc hd
  subst hc hd
  refine wpAny_binaryOp_repeat_ref (T := "tuple") (U := "int") (by decide) ⟨_, ho, rfl⟩ (fun s' => typeIs_int s' 1 t) noFill_tuple_mul F.fills_int_mul F.slot_int_rmul repeat_tuple F.slot_int_index.lookup
    (call_meets F.slot_int_rmul (typeIs_int s 1 t) F.entry_int_rmul (F.args_int_rmul_2 _ _) (int_rmul_tuple 1 t l its.toArray n dd sl)
      ⟨ho, rfl, ⟨_, ho, rfl⟩, call_meets F.slot_tuple_mul ⟨_, ho, rfl⟩ F.entry_tuple_mul (F.args_tuple_mul_2 _ _) (tuple_mul1 l its.toArray n dd sl t) ⟨ho, ?_⟩⟩)
  exact ⟨.ref l, H, I, rfl, q⟩
end
section
open PySem.Spec PyProof.Rows
/-- xs * n, xs a list that may be read by others -/
def rRepR : R2 := fun x y H Q => ∃ l k xs, x = .ref l ∧ y = .int k ∧ Rd H l (.lst xs) ∧ -(2 ^ 63) ≤ k ∧ k < 2 ^ 63 ∧ xs.length * k.toNat ≤ sizeLine ∧ ∀ p, H p = none → Q (.ref p) (upd H p (.lst (List.replicate k.toNat xs).flatten))
theorem op_repR : OpR X (binaryOp .Mult) rRepR := by
  intro pins s σ H x y v u Q I rx ry h
  obtain ⟨l, k, xs, rfl, rfl, hH, h1, h2, hz, q⟩ := h
  cases rx
  obtain ⟨t, rfl⟩ := ry
  obtain ⟨z, its, n, r, e⟩ := hH.ok I.hok
  have hl := r.length
  have small : its.toArray.size * k.toNat ≤ sizeLine := by rw [List.size_toArray, ← hl]; exact hz
  have cap : ¬ its.toArray.size * k.toNat > (2 ^ 63 - 1) / 8 := by
    have : (sizeLine : Nat) ≤ (2 ^ 63 - 1) / 8 := by decide
    omega
  have fit : ¬ (!Builtin.List.listFitsIndex k) = true := by
    rw [fitsIndex_both h1 h2]; exact Bool.false_ne_true
  have long : ¬ Builtin.List.listTooLong (its.toArray.size * k.toNat) = true := by
    rw [notLongL small]; exact Bool.false_ne_true
  have new : List.foldl (fun a b => a ++ b) #[] (List.replicate (if its.toArray.isEmpty = true then 0 else k.toNat) its.toArray) = (List.replicate k.toNat its).flatten.toArray := by
    have f0 : ∀ m : Nat, List.foldl (fun a b => a ++ b) #[] (List.replicate m its.toArray) = (List.replicate m its).flatten.toArray := fun m => by simpa using foldl_rep its m []
    rw [f0]
    cases its with
    | nil => simp
    | cons a r' => rw [if_neg (by simp)]
  refine wpAny_binaryOp_repeat_ref (T := "list") (U := "int") (by decide) ⟨_, e, rfl⟩ (fun s' => typeIs_int s' k t) noFill_list_mul F.fills_int_mul F.slot_int_rmul repeat_list F.slot_int_index.lookup
    (call_meets F.slot_int_rmul (typeIs_int s k t) F.entry_int_rmul (F.args_int_rmul_2 _ _) (int___rmul___int_list k t l its.toArray n)
      ⟨e, rfl, ⟨_, e, rfl⟩, call_meets F.slot_list_mul ⟨_, e, rfl⟩ F.entry_list_mul (F.args_list_mul_2 _ _) (AutoListH.list___mul___list_int_3 l its.toArray n k t fit cap long) ⟨e, ?_⟩⟩)
  rw [new]
  exact ⟨.ref _, _, I.lnew (t' := s.toks) (r.rep k.toNat) (by rw [PyProof.Rows.lm_len_rep_flat, Nat.mul_comm]; exact hz), rfl, q _ I.fresh⟩
end
theorem Con.lstR {W : Wd} {H : Hp} {v : V} {ds : List D} (h : Con K W H v (.lst ds)) : ∃ a xs, v = .ref a ∧ Rd H a (.lst xs) ∧ DenL K W H xs ds := by
  cases h with
  | den h => cases h with | lst h1 h2 => exact ⟨_, _, rfl, h1.rd, h2⟩
  | ob e h => cases h with | lst h1 h2 => exact ⟨_, _, e, .inl h1, h2⟩
def rMulA (K : PySem.W.Frag) : R2 := fun x y H Q => ((((rI CMul fun i j => .int (i * j)) x y H Q ∨ rMulS x y H Q) ∨ L2.rRepT K x y H Q) ∨ rRepT1 K x y H Q) ∨ rRepR x y H Q
theorem op_mulA : OpR X (binaryOp .Mult) (rMulA X.K) := (((op_mul.or op_mulS).or op_repT).or op_repT1).or op_repR
theorem p2_mul : P2 K (rMulA K) dMul3 := by
  intro v u x y W H Q c1 c2 o
  unfold dMul3 at o
  split at o
  · cases c1.int; cases c2.int
    obtain ⟨h, o⟩ := o.ite
    refine .inl (.inl (.inl (.inl ⟨_, _, rfl, rfl, ?_, o.int⟩)))
    unfold fitsMul at h
    simp only [Bool.or_eq_true, Bool.and_eq_true, decide_eq_true_eq] at h
    exact h
  · cases c1.str; cases c2.int
    obtain ⟨h, o⟩ := o.ite
    exact .inl (.inl (.inl (.inr ⟨_, _, rfl, rfl, h, o.str⟩)))
  · cases c2.int
    obtain ⟨a, xs, rfl, h1, h2⟩ := c1.tupS
    exact .inl (.inr ⟨a, xs, rfl, rfl, .inl (.inl h1), o _ _ (.same (.tup h1 h2))⟩)
  · cases c2.int
    obtain ⟨a, xs, rfl, h1, h2⟩ := c1.tup
    obtain ⟨⟨h3, h4, h5, h6⟩, o⟩ := o.ite
    refine .inl (.inl (.inr ⟨a, _, xs, rfl, rfl, h1, ?_, h4, h5, by rw [h2.length]; exact h6, fun p hp => o _ _ (.tup hp (h2.rep _))⟩))
    rintro rfl
    cases h2
    exact h3 rfl
  · cases c2.int
    obtain ⟨a, xs, rfl, h1, h2⟩ := c1.lstR
    obtain ⟨⟨h3, h4, h5⟩, o⟩ := o.ite
    have hl := h2.length
    refine .inr ⟨a, _, xs, rfl, rfl, h1, by omega, by omega, ?_, fun p hp => o _ _ (.lst hp (h2.rep _))⟩
    have hS : 1000 * 1000 ≤ sizeLine := by decide
    rename_i n _ _ _
    exact Nat.le_trans (Nat.mul_le_mul (by omega) (by omega)) hS
  · exact False.elim o
end
end Y
namespace Y
variable [TabC]
open PySem L2

/-! ### statements -/
inductive SR where
  | nx (l : Lc) (g : Gs) | rt (d : D) (f : Bool) (g : Gs) | bk (l : Lc) (g : Gs) | ct (l : Lc) (g : Gs)
  | ex (c : Nat) (d : D) (l : Lc) (g : Gs) | no
abbrev Sg := Lc → Gs → SR
def SPost (K : PySem.W.Frag) (W : Wd) (H : Hp) (σ : L2.St) (l : Lc) (r : SR) (D : Ends) : Prop := match r with
  | .nx l' g' => ∀ σ' W' H', Ok K W' l' g' σ' H' → Fr W H (OwnA l σ) W' H' (OwnA l' σ') → D.nx σ' H'
  | .bk l' g' => ∀ σ' W' H', Ok K W' l' g' σ' H' → Fr W H (OwnA l σ) W' H' (OwnA l' σ') → D.bk σ' H'
  | .ct l' g' => ∀ σ' W' H', Ok K W' l' g' σ' H' → Fr W H (OwnA l σ) W' H' (OwnA l' σ') → D.ct σ' H'
  | .rt d f g' => ∀ v W' H', Rep K W' g' H' → Fr W H (OwnA l σ) W' H' noOwn → Res K W' H (OwnA l σ) noOwn H' v d f → D.rt v H'
  | _ => False
def tS (X : Cx) (st : Stmt) : TS := fun D σ H => ∀ (pins : List (Addr × Obj)) (s : Shared), Inv X pins σ H s → wpAny (model X.prog X.w) X.A (exec st X.env) (L2.SP X pins D) X.xe s
def tSs (X : Cx) (st : List Stmt) : TS := fun D σ H => ∀ (pins : List (Addr × Obj)) (s : Shared), Inv X pins σ H s → wpAny (model X.prog X.w) X.A (execs st X.env) (L2.SP X pins D) X.xe s
theorem ps_s {X : Cx} {st : Stmt} : PS X st (tS X st) := ⟨fun pins s σ H D I h => h pins s I⟩
theorem pss_s {X : Cx} {st : List Stmt} : PSs X st (tSs X st) := ⟨fun pins s σ H D I h => h pins s I⟩
theorem tS.of {X : Cx} {st : Stmt} {t : TS} {D : Ends} {σ : L2.St} {H : Hp} (h : PS X st t) (q : t D σ H) : tS X st D σ H := fun pins s I => h.run pins s σ H D I q
theorem tSs.of {X : Cx} {st : List Stmt} {t : TS} {D : Ends} {σ : L2.St} {H : Hp} (h : PSs X st t) (q : t D σ H) : tSs X st D σ H := fun pins s I => h.run pins s σ H D I q
def SS (X : Cx) (st : Stmt) (m : Sg) : Prop := ∀ (σ : L2.St) (H : Hp) (W : Wd) (l : Lc) (g : Gs) (D : Ends), Ok X.K W l g σ H → SPost X.K W H σ l (m l g) D → tS X st D σ H
def SSs (X : Cx) (st : List Stmt) (m : Sg) : Prop := ∀ (σ : L2.St) (H : Hp) (W : Wd) (l : Lc) (g : Gs) (D : Ends), Ok X.K W l g σ H → SPost X.K W H σ l (m l g) D → tSs X st D σ H

section
variable {X : Cx} {K : PySem.W.Frag} {W W1 : Wd} {H H1 : Hp} {σ σ1 : L2.St} {l l1 : Lc} {g g1 : Gs} {e : Expr} {m : Sm} {pos : Pos} {st : Stmt} {rest : List Stmt}
theorem SPost.shift {r : SR} {D : Ends} (f : Fr W H (OwnA l σ) W1 H1 (OwnA l1 σ1)) (h : SPost K W H σ l r D) : SPost K W1 H1 σ1 l1 r D := by
  cases r with
  | nx l' g' => exact fun σ' W' H' ok' f' => h σ' W' H' ok' (f.trans f')
  | bk l' g' => exact fun σ' W' H' ok' f' => h σ' W' H' ok' (f.trans f')
  | ct l' g' => exact fun σ' W' H' ok' f' => h σ' W' H' ok' (f.trans f')
  | rt d fl g' =>
    intro v W' H' rep f' r'
    refine h v W' H' rep (f.trans f') ?_
    cases fl with
    | false => exact r'
    | true =>
      obtain ⟨a, e, ob, n1, n2, n3, z⟩ := r'
      exact ⟨a, e, ob, n1, n2, n3, z.elim (fun z => .inl (f.nz z)) fun z => (f.own a z).symm⟩
  | ex c d l g => exact h
  | no => exact h
def cSq (a b : Sg) : Sg := fun l g => match a l g with
  | .nx l g => b l g
  | r => r
def cNil : Sg := fun l g => .nx l g
theorem ss_nil : SSs X [] cNil := fun σ H W l g D ok p => tSs.of pss_nil (p σ W H ok Fr.refl)
theorem ss_cons {a b : Sg} (ha : SS X st a) (hb : SSs X rest b) : SSs X (st :: rest) (cSq a b) := by
  intro σ H W l g D ok p
  refine tSs.of (pss_cons ps_s pss_s) ?_
  refine ha σ H W l g { D with nx := tSs X rest D } ok ?_
  unfold cSq at p
  cases e : a l g with
  | nx l' g' =>
    rw [e] at p
    exact fun σ' W' H' ok' f' => hb σ' H' W' l' g' D ok' (p.shift f')
  | _ => rw [e] at p; exact p
/-- how an expression's outcome goes on in a statement -/
theorem SE.toS {Q : VK} {k : D → Bool → Lc → Gs → SR} {D : Ends} (h : SE X e m) (ok : Ok X.K W l g σ H)
    (p : SPost X.K W H σ l (match m l g with | .ok d f l g => k d f l g | .ex c d l g => .ex c d l g | .no => .no) D)
    (go : ∀ d f l1 g1 v W1 H1, SPost X.K W H σ l (k d f l1 g1) D → Ok X.K W1 l1 g1 σ H1 → Fr W H (OwnA l σ) W1 H1 (OwnA l1 σ) → Res X.K W1 H (OwnA l σ) (OwnA l1 σ) H1 v d f → Q v H1) : tW X e σ H Q := by
  refine h σ H W l g Q ok ?_
  cases e1 : m l g with
  | ok d f l1 g1 =>
    rw [e1] at p
    exact fun v W' H' ok' f' r' => go d f l1 g1 v W' H' p ok' f' r'
  | ex c d l g => rw [e1] at p; exact False.elim p
  | no => rw [e1] at p; exact False.elim p
def sBind (r : ER) (k : D → Bool → Lc → Gs → SR) : SR := match r with
  | .ok d f l g => k d f l g
  | .ex c d l g => .ex c d l g
  | .no => .no
theorem SE.bindS {Q : VK} {k : D → Bool → Lc → Gs → SR} {D : Ends} (h : SE X e m) (ok : Ok X.K W l g σ H) (p : SPost X.K W H σ l (sBind (m l g) k) D)
    (go : ∀ d f l1 g1 v W1 H1, SPost X.K W H σ l (k d f l1 g1) D → Ok X.K W1 l1 g1 σ H1 → Fr W H (OwnA l σ) W1 H1 (OwnA l1 σ) → Res X.K W1 H (OwnA l σ) (OwnA l1 σ) H1 v d f → Q v H1) : tW X e σ H Q := h.toS ok p go
theorem SE.bindSV {Q : VK} {k : D → Bool → Lc → Gs → SR} {D : Ends} (h : SE X e m) (ok : Ok X.K W l g σ H) (p : SPost X.K W H σ l (sBind (m l g) k) D)
    (go : ∀ d f l1 g1 v W1 H1, SPost X.K W1 H1 σ l1 (k d f l1 g1) D → Ok X.K W1 l1 g1 σ H1 → Fr W H (OwnA l σ) W1 H1 (OwnA l1 σ) → Den X.K W1 H1 v d → Q v H1) : tW X e σ H Q := by
  refine h.bindS ok p fun d f l1 g1 v W1 H1 p1 ok1 fr1 r => ?_
  obtain ⟨W2, ok2, fr2, le2, den⟩ := r.shared ok1 fr1
  exact go d f l1 g1 v W2 H1 (p1.shift fr2) ok2 fr2 den
theorem Fr.toNone {O O' : Addr → Prop} (f : Fr W H O W1 H1 O') : Fr W H O W1 H1 noOwn := ⟨f.mu, f.sub, f.new, f.keep, f.dom, fun _ z => z.elim, f.keepF⟩
def cRet (m : Sm) : Sg := fun l g => sBind (m l g) fun d f l g => .rt d f g
theorem ss_ret (h : SE X e m) : SS X (.Return (some e) pos) (cRet m) := by
  intro σ H W l g D ok p
  refine tS.of (ps_ret pe_w) (h.bindS ok p fun d f l1 g1 v W1 H1 p1 ok1 fr1 r => ?_)
  refine p1 v W1 H1 ok1.rep fr1.toNone ?_
  cases f with
  | false => exact r
  | true =>
    obtain ⟨a, e, ob, n1, n2, n3, z⟩ := r
    exact ⟨a, e, ob, n1, n2, fun z => z, z⟩
def cRetV (i : Nat) : Sg := fun l g => match l[i]? with
  | some (some (.val d)) => .rt d false g
  | some (some (.own d)) => .rt d true g
  | _ => .no
theorem ss_retV {i : Nat} (h : PE X e (tVar i)) : SS X (.Return (some e) pos) (cRetV i) := by
  intro σ H W l g D ok p
  refine tS.of (ps_ret h) ?_
  unfold cRetV at p
  split at p
  · rename_i d e
    obtain ⟨v, e1, den⟩ := ok.loc.val i d e
    exact ⟨v, e1, p v W H ok.rep Fr.refl.toNone den⟩
  · rename_i d e
    obtain ⟨a, e1, ob, n1, n2⟩ := ok.loc.own i d e
    exact ⟨.ref a, e1, p (.ref a) W H ok.rep Fr.refl.toNone ⟨a, rfl, ob, n1, n2, fun z => z, .inr ⟨i, d, e, e1⟩⟩⟩
  · exact False.elim p
def cRetN : Sg := fun l g => .rt .non false g
theorem ss_retN : SS X (.Return none pos) cRetN := fun σ H W l g D ok p => tS.of ps_retN (p .non W H ok.rep Fr.refl.toNone .non)
def cDrop (m : Sm) : Sg := fun l g => sBind (m l g) fun _ _ l g => .nx l g
theorem ss_drop (h : SE X e m) (hs : swapsWith e none pos.line X.env = pure false) : SS X (.Expr e pos) (cDrop m) := by
  intro σ H W l g D ok p
  exact tS.of (ps_expr pe_w hs) (h.bindS ok p fun d f l1 g1 v W1 H1 p1 ok1 fr1 r => p1 σ W1 H1 ok1 fr1)
theorem ss_pass : SS X (.Pass pos) cNil := fun σ H W l g D ok p => tS.of ps_pass (p σ W H ok Fr.refl)
def cBrk : Sg := fun l g => .bk l g
def cCnt : Sg := fun l g => .ct l g
theorem ss_break : SS X (.Break pos) cBrk := fun σ H W l g D ok p => tS.of ps_break (p σ W H ok Fr.refl)
theorem ss_cont : SS X (.Continue pos) cCnt := fun σ H W l g D ok p => tS.of ps_continue (p σ W H ok Fr.refl)

/-! ### stores into slots -/
theorem Ok.setVal {i : Nat} {v : V} {d : D} (ok : Ok K W l g σ H) (den : Den K W H v d) : Ok K W (l.set i (some (.val d))) g (σ.set i (some v)) H ∧ Fr W H (OwnA l σ) W H (OwnA (l.set i (some (.val d))) (σ.set i (some v))) := by
  have own : ∀ {j : Nat} {e : D}, (l.set i (some (.val d)))[j]? = some (some (.own e)) → i ≠ j ∧ l[j]? = some (some (.own e)) := fun {j e} h => by
    by_cases hj : i = j
    · subst hj
      by_cases hl : i < l.length
      · rw [List.getElem?_set_self hl] at h; cases h
      · rw [List.getElem?_eq_none (by simpa using hl)] at h; cases h
    · rw [List.getElem?_set_ne hj] at h; exact ⟨hj, h⟩
  refine ⟨⟨ok.rep, ⟨by rw [List.length_set, List.length_set]; exact ok.loc.len, fun j e h => ?_, fun j e h => ?_, fun j k d1 d2 b h1 h2 h3 h4 => ?_⟩⟩, ⟨⟨[], by simp, by simp⟩, fun _ h => h, fun _ h => .inl h, fun _ _ h _ _ _ _ => h, fun _ h => h, fun a ha => ?_, fun _ _ h _ _ _ => .inl h⟩⟩
  · by_cases hj : i = j
    · subst hj
      have hl : i < l.length := by
        have := (List.getElem?_eq_some_iff.mp h).1
        simpa using this
      rw [List.getElem?_set_self hl] at h
      cases h
      exact ⟨v, List.getElem?_set_self (by rw [← ok.loc.len]; exact hl), den⟩
    · rw [List.getElem?_set_ne hj] at h ⊢
      exact ok.loc.val j e h
  · obtain ⟨hj, h⟩ := own h
    rw [List.getElem?_set_ne hj]
    exact ok.loc.own j e h
  · obtain ⟨hj, h1⟩ := own h1
    obtain ⟨hk, h2⟩ := own h2
    rw [List.getElem?_set_ne hj] at h3
    rw [List.getElem?_set_ne hk] at h4
    exact ok.loc.dist j k d1 d2 b h1 h2 h3 h4
  · obtain ⟨j, e, h1, h2⟩ := ha
    obtain ⟨hj, h1⟩ := own h1
    rw [List.getElem?_set_ne hj] at h2
    exact .inl ⟨j, e, h1, h2⟩
theorem Ok.setOwn {i : Nat} {a : Addr} {d : D} (ok : Ok K W l g σ H) (ob : ObR K W H a d) (n1 : a ∉ W.mu) (n2 : ¬ W.F a) (n3 : ¬ OwnA l σ a) (hi : i < l.length) :
    Ok K W (l.set i (some (.own d))) g (σ.set i (some (.ref a))) H ∧ ∀ b, OwnA (l.set i (some (.own d))) (σ.set i (some (.ref a))) b → OwnA l σ b ∨ b = a := by
  have hs : i < σ.length := by rw [← ok.loc.len]; exact hi
  have own : ∀ {j : Nat} {e : D} {b : Addr}, (l.set i (some (.own d)))[j]? = some (some (.own e)) → (σ.set i (some (.ref a)))[j]? = some (some (.ref b)) → (i = j ∧ e = d ∧ b = a) ∨ (i ≠ j ∧ l[j]? = some (some (.own e)) ∧ σ[j]? = some (some (.ref b))) := fun {j e b} h h' => by
    by_cases hj : i = j
    · subst hj
      rw [List.getElem?_set_self hi] at h
      rw [List.getElem?_set_self hs] at h'
      cases h; cases h'
      exact .inl ⟨rfl, rfl, rfl⟩
    · rw [List.getElem?_set_ne hj] at h h'
      exact .inr ⟨hj, h, h'⟩
  refine ⟨⟨ok.rep, ⟨by rw [List.length_set, List.length_set]; exact ok.loc.len, fun j e h => ?_, fun j e h => ?_, fun j k d1 d2 b h1 h2 h3 h4 => ?_⟩⟩, fun b hb => ?_⟩
  · by_cases hj : i = j
    · subst hj
      rw [List.getElem?_set_self hi] at h
      cases h
    · rw [List.getElem?_set_ne hj] at h ⊢
      exact ok.loc.val j e h
  · by_cases hj : i = j
    · subst hj
      rw [List.getElem?_set_self hi] at h
      cases h
      exact ⟨a, List.getElem?_set_self hs, ob, n1, n2⟩
    · rw [List.getElem?_set_ne hj] at h ⊢
      exact ok.loc.own j e h
  · rcases own h1 h3 with ⟨e1, _, e2⟩ | ⟨hj, q1, q3⟩
    · rcases own h2 h4 with ⟨e3, _, _⟩ | ⟨hk, q2, q4⟩
      · exact e1.symm.trans e3
      · exact (n3 ⟨k, d2, q2, e2 ▸ q4⟩).elim
    · rcases own h2 h4 with ⟨_, _, e2⟩ | ⟨hk, q2, q4⟩
      · exact (n3 ⟨j, d1, q1, e2 ▸ q3⟩).elim
      · exact ok.loc.dist j k d1 d2 b q1 q2 q3 q4
  · obtain ⟨j, e, h1, h2⟩ := hb
    rcases own h1 h2 with ⟨_, _, rfl⟩ | ⟨_, h1, h2⟩
    · exact .inr rfl
    · exact .inl ⟨j, e, h1, h2⟩
def sv (d : D) : Bool → SV
  | true => .own d
  | false => .val d
def cSet (i : Nat) (m : Sm) : Sg := fun l g => sBind (m l g) fun d f l g => .nx (l.set i (some (sv d f))) g
/-- x = e: what comes behind e's value -/
theorem set_fin {i : Nat} {d : D} {f : Bool} {v : V} {D : Ends} (p : SPost K W H σ l (.nx (l1.set i (some (sv d f))) g1) D) (ok : Ok K W1 l1 g1 σ H1) (fr : Fr W H (OwnA l σ) W1 H1 (OwnA l1 σ)) (r : Res K W1 H (OwnA l σ) (OwnA l1 σ) H1 v d f) (hi : i < σ.length) :
    D.nx (σ.set i (some v)) H1 := by
  cases f with
  | false =>
    obtain ⟨ok2, fr2⟩ := ok.setVal (i := i) r
    exact p _ W1 H1 ok2 (fr.trans fr2)
  | true =>
    obtain ⟨a, rfl, ob, n1, n2, n3, z⟩ := r
    obtain ⟨ok2, own2⟩ := ok.setOwn (i := i) ob n1 n2 n3 (by rw [ok.loc.len]; exact hi)
    refine p _ W1 H1 ok2 ⟨fr.mu, fr.sub, fr.new, fr.keep, fr.dom, fun b hb => ?_, fr.keepF⟩
    rcases own2 b hb with hb | hb
    · exact fr.own b hb
    · rw [hb]; exact z.symm
theorem ss_set {i : Nat} {x : Str} {p0 : Pos} (hN : X.N.Nodup) (hi : X.N[i]? = some x) (hx : Loc X.env.scope x) (hf : X.fn x = true ∨ X.env.scope.names.lookup x = some .local) (h : SE X e m) (hs : swapsWith e (some (.Name x p0)) pos.line X.env = pure false) :
    SS X (.Assign [.Name x p0] e pos) (cSet i m) := by
  intro σ H W l g D ok p pins s I
  have hil : i < σ.length := by rw [I.len]; exact (List.getElem?_eq_some_iff.mp hi).1
  refine (tS.of (ps_set hN hi hx (pe_w (e := e)) hs hf) (D := D) ?_) pins s I
  exact h.bindS ok p fun d f l1 g1 v W1 H1 p1 ok1 fr1 r => set_fin p1 ok1 fr1 r hil

/-! ### if -/
def cIfS (c : Sm) (a b : Sg) : Sg := fun l g => sBind (c l g) fun x _ l g => onB x (a l g) (b l g) .no
theorem ST.bindS {c : Expr} {mc : Sm} {k : D → Bool → Lc → Gs → SR} {D : Ends} {R : Bool → Hp → Prop} (h : ST X c mc) (ok : Ok X.K W l g σ H) (p : SPost X.K W H σ l (sBind (mc l g) k) D)
    (hb : ∀ d f l g, (∀ b, d ≠ .bl b) → k d f l g = .no)
    (go : ∀ b f l1 g1 W1 H1, SPost X.K W1 H1 σ l1 (k (.bl b) f l1 g1) D → Ok X.K W1 l1 g1 σ H1 → Fr W H (OwnA l σ) W1 H1 (OwnA l1 σ) → R b H1) : tT X c σ H R := by
  refine h σ H W l g R ok ?_
  cases e1 : mc l g with
  | ok d f l1 g1 =>
    rw [e1] at p
    have p : SPost X.K W H σ l (k d f l1 g1) D := p
    by_cases hd : ∃ b, d = .bl b
    · obtain ⟨b, rfl⟩ := hd
      exact fun W' H' ok' f' => go b f l1 g1 W' H' (p.shift f') ok' f'
    · rw [hb d f l1 g1 fun b e => hd ⟨b, e⟩] at p
      exact False.elim p
  | ex c d l g => rw [e1] at p; exact False.elim p
  | no => rw [e1] at p; exact False.elim p
theorem ss_if {c : Expr} {mc : Sm} {A B : List Stmt} {a b : Sg} (hc : ST X c mc) (ha : SSs X A a) (hb : SSs X B b) : SS X (.If c A B pos) (cIfS mc a b) := by
  intro σ H W l g D ok p
  refine tS.of (ps_if pt_t pss_s pss_s) ?_
  refine hc.bindS ok p (fun d f l g h => noBl3 h) fun x f l1 g1 W1 H1 p1 ok1 fr1 => ?_
  cases x with
  | true => exact ha σ H1 W1 l1 g1 D ok1 p1
  | false => exact hb σ H1 W1 l1 g1 D ok1 p1

/-! ### while -/
/-- what a turn of a loop hands on -/
def turn (r : SR) (k : Sg) : SR := match r with
  | .nx l g => k l g
  | .ct l g => k l g
  | .bk l g => .nx l g
  | r => r
theorem turn_post {r : SR} {k : Sg} {D : Ends} {N : L2.St → Hp → Prop} (p : SPost K W H σ l (turn r k) D)
    (hN : ∀ l1 g1 σ' W' H', SPost K W' H' σ' l1 (k l1 g1) D → Ok K W' l1 g1 σ' H' → Fr W H (OwnA l σ) W' H' (OwnA l1 σ') → N σ' H') : SPost K W H σ l r { D with nx := N, ct := N, bk := D.nx } := by
  cases r with
  | nx l1 g1 =>
    have p : SPost K W H σ l (k l1 g1) D := p
    exact fun σ' W' H' ok' f' => hN l1 g1 σ' W' H' (p.shift f') ok' f'
  | ct l1 g1 =>
    have p : SPost K W H σ l (k l1 g1) D := p
    exact fun σ' W' H' ok' f' => hN l1 g1 σ' W' H' (p.shift f') ok' f'
  | bk l1 g1 => exact p
  | rt d f g => exact p
  | ex c d l g => exact p
  | no => exact p
def whl (c : Sm) (b : Sg) : Nat → Sg
  | 0 => fun _ _ => .no
  | n + 1 => fun l g => sBind (c l g) fun x _ l g => onB x (turn (b l g) (whl c b n)) (.nx l g) .no
theorem ss_while {c : Expr} {mc : Sm} {B : List Stmt} {b : Sg} {n : Nat} (hp : PassesOwn (model X.prog X.w) X.A X.env X.xe) (hc : ST X c mc) (hb : SSs X B b) : SS X (.While c B [] pos) (whl mc b n) := by
  intro σ H W l g D ok p
  refine tS.of (ps_while hp pt_t pss_s) ?_
  refine ⟨fun m σ' H' => ∃ W' l' g', Ok X.K W' l' g' σ' H' ∧ SPost X.K W' H' σ' l' (whl mc b m l' g') D, ⟨n, W, l, g, ok, p⟩, ?_⟩
  rintro m σ1 H1 ⟨W1, l1, g1, ok1, p1⟩
  cases m with
  | zero => exact False.elim p1
  | succ m =>
    refine hc.bindS ok1 p1 (fun d f l g h => noBl3 h) fun x f l2 g2 W2 H2 p2 ok2 fr2 => ?_
    cases x with
    | true =>
      rw [if_pos rfl]
      refine ⟨fun σ' H' => ∃ W' l' g', Ok X.K W' l' g' σ' H' ∧ SPost X.K W' H' σ' l' (whl mc b m l' g') D, fun σ' H' h => ⟨m, Nat.lt_succ_self m, h⟩, ?_⟩
      refine hb σ1 H2 W2 l2 g2 _ ok2 (turn_post p2 fun l3 g3 σ' W' H' p3 ok3 fr3 => ⟨W', l3, g3, ok3, p3⟩)
    | false =>
      rw [if_neg Bool.false_ne_true]
      exact p2 σ1 W2 H2 ok2 Fr.refl
end
end Y
namespace Y
variable [TabC]
open PySem L2

/-! ### places that may be written: a slot's own thing, a box -/
inductive Pl where
  | sl (j : Nat) | bx (n : Nat)
def ownD (o : Option (Option SV)) : Option D := match o with
  | some (some (.own d)) => some d
  | _ => none
def boxD (o : Option Bx) : Option D := match o with
  | some (.box d) => some d
  | _ => none
def getP (l : Lc) (g : Gs) : Pl → Option D
  | .sl j => ownD l[j]?
  | .bx n => boxD g[n]?
def setPl (d : D) (l : Lc) : Pl → Lc
  | .sl j => l.set j (some (.own d))
  | .bx _ => l
def setPg (d : D) (g : Gs) : Pl → Gs
  | .sl _ => g
  | .bx n => g.set n (.box d)
/-- what a slot leads to -/
def slotP (l : Lc) (j : Nat) : Option Pl := match l[j]? with
  | some (some (.own _)) => some (.sl j)
  | some (some (.val (.ref n))) => some (.bx n)
  | _ => none
/-- the address of a place -/
def PlA (W : Wd) (σ : L2.St) (a : Addr) : Pl → Prop
  | .sl j => σ[j]? = some (some (.ref a))
  | .bx n => W.mu[n]? = some a
theorem ownD_some {o : Option (Option SV)} {d : D} (h : ownD o = some d) : o = some (some (.own d)) := by
  unfold ownD at h
  split at h
  · cases h; rfl
  · cases h
theorem boxD_some {o : Option Bx} {d : D} (h : boxD o = some d) : o = some (.box d) := by
  unfold boxD at h
  split at h
  · cases h; rfl
  · cases h

theorem nodup_at {α : Type} : ∀ {xs : List α} {i j : Nat} {a : α}, xs.Nodup → xs[i]? = some a → xs[j]? = some a → i = j
  | [], _, _, _, _, h, _ => by simp at h
  | x :: xs, 0, 0, _, _, _, _ => rfl
  | x :: xs, 0, j + 1, a, hn, h1, h2 => by
    simp at h1 h2
    exact absurd (List.mem_of_getElem? h2) (h1 ▸ (List.nodup_cons.mp hn).1)
  | x :: xs, i + 1, 0, a, hn, h1, h2 => by
    simp at h1 h2
    exact absurd (List.mem_of_getElem? h1) (h2 ▸ (List.nodup_cons.mp hn).1)
  | x :: xs, i + 1, j + 1, a, hn, h1, h2 => by
    simp at h1 h2
    exact congrArg (· + 1) (nodup_at (List.nodup_cons.mp hn).2 h1 h2)
section
variable {X : Cx} {K : PySem.W.Frag} {W W1 : Wd} {H H1 : Hp} {σ σ1 : L2.St} {l l1 : Lc} {g g1 : Gs} {e : Expr} {m : Sm} {pos : Pos}
theorem getP_ob {pl : Pl} {a : Addr} {d : D} (ok : Ok K W l g σ H) (ha : PlA W σ a pl) (h : getP l g pl = some d) : ObR K W H a d := by
  cases pl with
  | sl j =>
    obtain ⟨b, e, ob, _⟩ := ok.loc.own j d (ownD_some h)
    rw [show σ[j]? = some (some (.ref a)) from ha] at e
    cases e
    exact ob
  | bx n =>
    have := ok.rep.ob n a _ ha (boxD_some h)
    cases this with
    | box ob => exact ob
theorem slotP_addr {j : Nat} {pl : Pl} {v : V} (ok : Ok K W l g σ H) (h : slotP l j = some pl) (ev : σ[j]? = some (some v)) : ∃ a, v = .ref a ∧ PlA W σ a pl := by
  unfold slotP at h
  split at h
  · rename_i d e
    cases h
    obtain ⟨a, e1, _⟩ := ok.loc.own j d e
    rw [ev] at e1
    cases e1
    exact ⟨a, rfl, ev⟩
  · rename_i n e
    cases h
    obtain ⟨v', e1, den⟩ := ok.loc.val j _ e
    rw [ev] at e1
    cases e1
    cases den with
    | ref hm => exact ⟨_, rfl, hm⟩
  · cases h
theorem slotP_some {j : Nat} {pl : Pl} (ok : Ok K W l g σ H) (h : slotP l j = some pl) : ∃ v, σ[j]? = some (some v) := by
  unfold slotP at h
  split at h
  · rename_i d e; obtain ⟨a, e1, _⟩ := ok.loc.own j d e; exact ⟨_, e1⟩
  · rename_i n e; obtain ⟨v, e1, _⟩ := ok.loc.val j _ e; exact ⟨v, e1⟩
  · cases h
theorem Le.write {a : Addr} {o u : HO} (hm : H a = some u) (mu : Mut (some u)) (hf : ¬ W.F a) : Le W H W (upd H a o) := by
  have ne : ∀ b v, H b = some v → ¬ Mut (some v) → b ≠ a := fun b v e nm z => by
    rw [z, hm] at e; cases e; exact nm mu
  refine ⟨⟨[], by simp⟩, fun _ h => h, fun b v e f => ?_, fun b xs e => ?_, fun b v w e => ?_⟩
  · exact .inl (by rw [upd_ne (fun z => hf (by rw [← z]; exact f))]; exact e)
  · rw [upd_ne (ne b _ e fun z => z)]; exact e
  · rw [upd_ne (ne b _ e fun z => z)]; exact e
/-- THE STORE: the thing at a place is written -/
theorem Ok.put {pl : Pl} {a : Addr} {d d' : D} {o : HO} (ok : Ok K W l g σ H) (ha : PlA W σ a pl) (h : getP l g pl = some d)
    (hn : Le W H W (upd H a o) → ObR K W (upd H a o) a d') : Ok K W (setPl d' l pl) (setPg d' g pl) σ (upd H a o) ∧ Fr W H (OwnA l σ) W (upd H a o) (OwnA (setPl d' l pl) σ) ∧ Le W H W (upd H a o) := by
  have ob := getP_ob ok ha h
  obtain ⟨u, hu, mu⟩ := ob.lives
  have hF : ¬ W.F a := by
    cases pl with
    | sl j => exact (ok.loc.ownNot ⟨j, d, ownD_some h, ha⟩).2
    | bx n => exact fun z => ok.rep.dis a z (List.mem_of_getElem? ha)
  have L : Le W H W (upd H a o) := Le.write hu mu hF
  have new := hn L
  have kne : ∀ b, b ≠ a → ∀ v, H b = some v → upd H a o b = some v := fun b hb v e => by rw [upd_ne hb]; exact e
  have dom : ∀ b, H b ≠ none → upd H a o b ≠ none := fun b hb => by
    unfold upd; split
    · simp
    · exact hb
  have fd : ∀ b, W.F b → ∃ v, upd H a o b = some v ∧ Plain v := fun b hb => by
    obtain ⟨v, e, pv⟩ := ok.rep.fd b hb
    exact ⟨v, kne b (fun z => hF (z ▸ hb)) v e, pv⟩
  have tb : Tbs (upd H a o) := by
    obtain ⟨u, hu, pu⟩ := ob.plain
    exact ok.rep.tabs.put hu pu fun b v hb e => kne b hb v e
  cases pl with
  | sl j =>
    have hj : l[j]? = some (some (.own d)) := ownD_some h
    have hjl : j < l.length := (List.getElem?_eq_some_iff.mp hj).1
    have haσ : σ[j]? = some (some (.ref a)) := ha
    obtain ⟨nm, _⟩ := ok.loc.ownNot ⟨j, d, hj, haσ⟩
    have own : ∀ {q : Nat} {x : D}, (l.set j (some (.own d')))[q]? = some (some (.own x)) → (j = q ∧ x = d') ∨ (j ≠ q ∧ l[q]? = some (some (.own x))) := fun {q x} hq => by
      by_cases hjq : j = q
      · subst hjq
        rw [List.getElem?_set_self hjl] at hq
        cases hq; exact .inl ⟨rfl, rfl⟩
      · rw [List.getElem?_set_ne hjq] at hq; exact .inr ⟨hjq, hq⟩
    refine ⟨⟨⟨ok.rep.len, ok.rep.nd, fun n b x h1 h2 => (ok.rep.ob n b x h1 h2).le L (kne b fun z => nm (z ▸ List.mem_of_getElem? h1)), ok.rep.dis, fd, tb⟩,
      ⟨by show (l.set j _).length = _; rw [List.length_set]; exact ok.loc.len, fun i x hx => ?_, fun i x hx => ?_, fun i k d1 d2 b h1 h2 h3 h4 => ?_⟩⟩, ⟨⟨[], by simp, by simp⟩, fun _ h => h, fun _ h => .inl h, fun b v e _ _ nO _ => kne b (fun z => nO ⟨j, d, hj, z ▸ haσ⟩) v e, dom, fun b hb => ?_, fun b v e _ _ nO => .inl (kne b (fun z => nO ⟨j, d, hj, z ▸ haσ⟩) v e)⟩, L⟩
    · have hx : (l.set j (some (.own d')))[i]? = some (some (.val x)) := hx
      by_cases hji : j = i
      · subst hji
        rw [List.getElem?_set_self hjl] at hx; cases hx
      · rw [List.getElem?_set_ne hji] at hx
        obtain ⟨v, e, den⟩ := ok.loc.val i x hx
        exact ⟨v, e, den.le L⟩
    · rcases own hx with ⟨rfl, rfl⟩ | ⟨hne, hx⟩
      · exact ⟨a, haσ, new, nm, hF⟩
      · obtain ⟨b, e, ob', m1, m2⟩ := ok.loc.own i x hx
        refine ⟨b, e, ob'.le L (kne b fun z => ?_), m1, m2⟩
        rw [z] at e
        exact hne (ok.loc.dist j i d x a hj hx haσ e)
    · have f : ∀ {q : Nat} {x : D}, (l.set j (some (.own d')))[q]? = some (some (.own x)) → ∃ y, l[q]? = some (some (.own y)) := fun {q x} hq => by
        rcases own hq with ⟨rfl, _⟩ | ⟨_, hq⟩
        · exact ⟨d, hj⟩
        · exact ⟨x, hq⟩
      obtain ⟨y1, q1⟩ := f h1
      obtain ⟨y2, q2⟩ := f h2
      exact ok.loc.dist i k y1 y2 b q1 q2 h3 h4
    · obtain ⟨i, x, h1, h2⟩ := hb
      rcases own h1 with ⟨rfl, _⟩ | ⟨_, h1⟩
      · exact .inl ⟨_, d, hj, h2⟩
      · exact .inl ⟨i, x, h1, h2⟩
  | bx n =>
    have hn' : g[n]? = some (.box d) := boxD_some h
    have hnl : n < g.length := (List.getElem?_eq_some_iff.mp hn').1
    have han : W.mu[n]? = some a := ha
    have inmu : a ∈ W.mu := List.mem_of_getElem? han
    refine ⟨⟨⟨by show _ = (g.set n _).length; rw [List.length_set]; exact ok.rep.len, ok.rep.nd, fun q b x h1 h2 => ?_, ok.rep.dis, fd, tb⟩,
      ⟨ok.loc.len, fun i x hx => ?_, fun i x hx => ?_, ok.loc.dist⟩⟩, ⟨⟨[], by simp, by simp⟩, fun _ h => h, fun _ h => .inl h, fun b v e _ nb _ _ => kne b (fun z => nb (z ▸ inmu)) v e, dom, fun b hb => .inl hb, fun b v e _ nb _ => .inl (kne b (fun z => nb (z ▸ inmu)) v e)⟩, L⟩
    · have h2 : (g.set n (.box d'))[q]? = some x := h2
      by_cases hq : n = q
      · subst hq
        rw [List.getElem?_set_self hnl] at h2
        cases h2
        rw [han] at h1
        cases h1
        exact .box new
      · rw [List.getElem?_set_ne hq] at h2
        refine (ok.rep.ob q b x h1 h2).le L (kne b fun z => ?_)
        rw [z] at h1
        exact hq (nodup_at ok.rep.nd han h1)
    · obtain ⟨v, e, den⟩ := ok.loc.val i x hx
      exact ⟨v, e, den.le L⟩
    · obtain ⟨b, e, ob', m1, m2⟩ := ok.loc.own i x hx
      exact ⟨b, e, ob'.le L (kne b fun z => m1 (z ▸ inmu)), m1, m2⟩
end

/-! ### o[i] = v -/
/-- where the thing to be written is: a name's slot, or an expression that hands back a box -/
def putIx : D → D → D → Option D
  | .lst ds, .int k, x => (ixN ds.length k).map fun j => .lst (ds.set j x)
  | .dct ps, y, x => dput (.dct ps) y x
  | .dcu ps, y, x => dput (.dcu ps) y x
  | _, _, _ => none
def rSetA : TSet := fun o i v H Q => rSetL o i v H Q ∨ rSetD o i v H Q
def stFin (pl : Option Pl) (y x : D) (l : Lc) (g : Gs) : SR := match pl with
  | some pl => (match getP l g pl with
    | some d => (match putIx d y x with
      | some d' => .nx (setPl d' l pl) (setPg d' g pl)
      | none => .no)
    | none => .no)
  | none => .no
def refP : D → Option Pl
  | .ref n => some (.bx n)
  | _ => none
def cSt (v : Sm) : Opd → Sm → Sg
  | .pk j, i => fun l g => sBind (v l g) fun x _ l g => match slotP l j with
    | none => .no
    | some _ => sBind (i l g) fun y _ l g => stFin (slotP l j) y x l g
  | .ev o, i => fun l g => sBind (v l g) fun x _ l g => sBind (o l g) fun r _ l g => sBind (i l g) fun y _ l g => stFin (refP r) y x l g
section
variable {X : Cx} {K : PySem.W.Frag} {W W1 : Wd} {H H1 : Hp} {σ σ1 : L2.St} {l l1 : Lc} {g g1 : Gs} {e o i : Expr} {me mi : Sm} {pos tpos : Pos}
theorem stFin_ok {pl : Option Pl} {y x : D} {r u v : V} {D : Ends} (ok : Ok K W l g σ H) (p : SPost K W H σ l (stFin pl y x l g) D) (hr : ∀ q, pl = some q → ∃ a, r = .ref a ∧ PlA W σ a q)
    (hy : Con K W H u y) (hx : Den K W H v x) : rSetA r u v H fun H3 => D.nx σ H3 := by
  unfold stFin at p
  cases pl with
  | none => exact False.elim p
  | some pl =>
    simp only at p
    cases hg : getP l g pl with
    | none => rw [hg] at p; exact False.elim p
    | some d =>
      rw [hg] at p
      simp only at p
      cases hp : putIx d y x with
      | none => rw [hp] at p; exact False.elim p
      | some d' =>
        rw [hp] at p
        obtain ⟨a, rfl, ha⟩ := hr pl rfl
        have ob := getP_ob ok ha hg
        unfold putIx at hp
        split at hp
        · rename_i ds k
          rw [Option.map_eq_some_iff] at hp
          obtain ⟨j, ej, rfl⟩ := hp
          cases ob with
          | @lst xs _ h1 h2 =>
            cases hy.int
            refine .inl ⟨a, xs, k, j, rfl, rfl, h1, by rw [h2.length]; exact ej, ?_⟩
            obtain ⟨ok', fr', L⟩ := ok.put (o := .lst (xs.set j v)) ha hg fun L => .lst upd_same ((DenL.le L _ h2).set (hx.le L))
            exact p σ W _ ok' fr'
        · rename_i ps
          unfold dput at hp
          simp only at hp
          split at hp
          · rename_i hc
            cases hp
            obtain ⟨k, ek⟩ := Option.isSome_iff_exists.mp hc.1
            obtain ⟨rfl, rfl⟩ := hy.key ek
            cases ob with
            | @dct kvs _ h1 h2 =>
              refine .inr ⟨a, _, rfl, DPut.k (v := v) h1 (by rw [h2.len]; exact hc.2), ?_⟩
              obtain ⟨ok', fr', L⟩ := ok.put (o := .dK (putK kvs k v)) (d' := .dct (putD ps (keyD k) x)) ha hg fun L => .dct upd_same ((DenP.le L _ h2).put (Den.keyD k) (hx.le L))
              exact p σ W _ ok' fr'
          · cases hp
        · rename_i ps
          unfold dput at hp
          simp only at hp
          split at hp
          · rename_i hc
            cases hp
            obtain ⟨k, ek⟩ := Option.isSome_iff_exists.mp hc.1
            obtain ⟨b, rfl, hb, rfl⟩ := hy.tk ek
            cases ob with
            | @dcu kvs _ h1 h2 =>
              refine .inr ⟨a, _, rfl, DPut.t (v := v) h1 hb (by rw [h2.len]; exact hc.2), ?_⟩
              obtain ⟨ok', fr', L⟩ := ok.put (o := .dT (putK kvs k v)) (d' := .dcu (putD ps (.tup (k.map keyD)) x)) ha hg fun L => .dcu upd_same ((DenU.le L _ h2).put k (hx.le L))
              exact p σ W _ ok' fr'
          · cases hp
        · cases hp
def tG (X : Cx) (tg : Expr) : TG := fun v σ H Q => ∀ (pins : List (Addr × Obj)) (s : Shared) (u : Value), Inv X pins σ H s → RelV v u → wpAny (model X.prog X.w) X.A (assign tg X.env u) (fun _ s' => ∃ σ' H', Inv X pins σ' H' s' ∧ Q σ' H') X.xe s
theorem pg_g {tg : Expr} : PG X tg (tG X tg) := ⟨fun pins s σ H v u Q I r h => h pins s u I r⟩
theorem ss_store {oo : Opd} (hu : X.A.units + 1 < cLine) (he : SE X e me) (ho : SO X o oo) (hi : SE X i mi)
    (hsub : ∀ v, assign (.Subscript o i tpos) X.env v = (do
      let ov ← holding [v] (eval o X.env)
      let iv ← holding [v, ov] (eval i X.env)
      standAt tpos
      holding [v, ov, iv] (setItem ov iv v)
      release [v, ov, iv] []))
    (hs : swapsWithSole [.Subscript o i tpos] e pos.line X.env = pure false) (hw : swappedStores [.Subscript o i tpos] e X.env = pure none) : SS X (.Assign [.Subscript o i tpos] e pos) (cSt me oo mi) := by
  intro σ H W l g D ok p
  cases ho with
  | ev ho =>
    refine tS.of (ps_asg pe_w (pg_sub pe_w pe_w (PSet.or set_list (set_dict hu)) hsub) hs hw) ?_
    refine he.bindSV ok p fun d f l1 g1 v W1 H1 p1 ok1 fr1 den => ?_
    refine ho.bindSV ok1 p1 fun r f l2 g2 rv W2 H2 p2 ok2 fr2 den2 => ?_
    refine hi.bindSV ok2 p2 fun y f l3 g3 u W3 H3 p3 ok3 fr3 den3 => ?_
    refine stFin_ok ok3 p3 (fun q hq => ?_) (.den den3) ((den.le (ok1.le fr2)).le (ok2.le fr3))
    cases r with
    | ref n =>
      cases hq
      cases den2.le (ok2.le fr3) with
      | ref hm => exact ⟨_, rfl, hm⟩
    | _ => cases hq
  | @pk j ho =>
    refine tS.of (ps_asg pe_w (pg_sub ho pe_w (PSet.or set_list (set_dict hu)) hsub) hs hw) ?_
    refine he.bindSV ok p fun d f l1 g1 v W1 H1 p1 ok1 fr1 den => ?_
    cases e1 : slotP l1 j with
    | none => simp only [e1] at p1; exact False.elim p1
    | some pl =>
      simp only [e1] at p1
      obtain ⟨r, er⟩ := slotP_some ok1 e1
      refine ⟨r, er, hi.bindSV ok1 p1 fun y f l3 g3 u W3 H3 p3 ok3 fr3 den3 => ?_⟩
      exact stFin_ok ok3 p3 (fun q hq => slotP_addr ok3 hq er) (.den den3) (den.le (ok1.le fr3))
end

/-! ### methods that write -/
/-- the new content, what is handed back -/
abbrev Mu := D → List D → Option (D × D)
def muFin (f : Mu) (pl : Option Pl) (xs : List D) (l : Lc) (g : Gs) : ER := match pl with
  | some pl => (match getP l g pl with
    | some d => (match f d xs with
      | some (d', r) => .ok r false (setPl d' l pl) (setPg d' g pl)
      | none => .no)
    | none => .no)
  | none => .no
/-- the receiver is there and is such a thing -/
def isK (k : D → Bool) (l : Lc) (g : Gs) (pl : Option Pl) : Bool := match pl with
  | some pl => (match getP l g pl with
    | some d => k d
    | none => false)
  | none => false
def cMu (k : D → Bool) (f : Mu) : Opd → List Sm → Sm
  | .pk j, ms => fun l g => if isK k l g (slotP l j) = true then cArgs ms (fun xs l g => muFin f (slotP l j) xs l g) l g else .no
  | .ev o, ms => fun l g => (o l g).bind fun r _ l g => if isK k l g (refP r) = true then cArgs ms (fun xs l g => muFin f (refP r) xs l g) l g else .no
def isLst : D → Bool
  | .lst _ => true
  | _ => false
section
variable {X : Cx} {K : PySem.W.Frag} {W W1 : Wd} {H H1 : Hp} {σ σ1 : L2.St} {l l1 : Lc} {g g1 : Gs} {e o i : Expr} {me mi : Sm} {pos apos : Pos}
/-- a writing method's rule -/
structure PMu (K : PySem.W.Frag) (r : V → List V → Hp → VK → Prop) (f : Mu) : Prop where
  lst : ∀ (d : D) (xs : List D) (r : D × D), f d xs = some r → isLst d = true
  run : ∀ (a : Addr) (vs : List V) (xs : List V) (ds es : List D) (d' y : D) (W : Wd) (H : Hp) (Q : VK), H a = some (.lst xs) → DenL K W H xs ds → DenL K W H vs es → f (.lst ds) es = some (d', y) →
  (∀ (zs : List V) (zd : List D) (w : V), d' = .lst zd → DenL K W H zs zd → Den K W H w y → Q w (upd H a (.lst zs))) → r (.ref a) vs H Q
theorem muFin_ok {r : V → List V → Hp → VK → Prop} {f : Mu} (hf : PMu K r f) {pl : Option Pl} {xs : List D} {vs : List V} {rv : V} {Q : VK} (ok : Ok K W l g σ H) (p : EPost K W H σ l (muFin f pl xs l g) Q)
    (hr : ∀ q, pl = some q → ∃ a, rv = .ref a ∧ PlA W σ a q) (hx : DenL K W H vs xs) : r rv vs H Q := by
  unfold muFin at p
  cases pl with
  | none => exact False.elim p
  | some pl =>
    simp only at p
    cases hg : getP l g pl with
    | none => rw [hg] at p; exact False.elim p
    | some d =>
      rw [hg] at p
      simp only at p
      cases hp : f d xs with
      | none => rw [hp] at p; exact False.elim p
      | some dr =>
        obtain ⟨d', y⟩ := dr
        rw [hp] at p
        simp only at p
        obtain ⟨a, rfl, ha⟩ := hr pl rfl
        have ob := getP_ob ok ha hg
        have hk := hf.lst d xs _ hp
        cases ob with
        | @lst zs ds h1 h2 =>
          refine hf.run a vs zs ds xs d' y W H Q h1 h2 hx hp fun zs' zd w e hz hw => ?_
          subst e
          obtain ⟨ok', fr', L⟩ := ok.put (o := .lst zs') ha hg fun L => .lst upd_same (DenL.le L _ hz)
          exact p w W _ ok' fr' (hw.le L)
        | dct _ _ => cases hk
        | dcu _ _ => cases hk
end
end Y
namespace Y
variable [TabC]
open PySem L2

section
variable {X : Cx} {K : PySem.W.Frag} {W W1 : Wd} {H H1 : Hp} {σ σ1 : L2.St} {l l1 : Lc} {g g1 : Gs} {e o i : Expr} {me mi : Sm} {pos apos : Pos}
/-! ### xs.append(..) and its like -/
structure MBs (X : Cx) (o : Expr) (name : Str) (es : List Expr) (apos pos : Pos) : Prop where
  base : attributeBase o name X.env (eval o X.env) = eval o X.env
  line : (apos.endLine == pos.line) = true
  few : ((backTo pos (starEach es X.env)).all (fun x => !x.1) && (backToKw pos (keywordEach [] X.env)).all (fun x => x.1.isSome)
      && decide (es.length + ([] : List Keyword).length + (if ([] : List Keyword).isEmpty then 0 else 1) < 30)) = true
theorem se_mu1 {id : String} {name : Str} {r : V → List V → Hp → VK → Prop} {f : Mu} {oo : Opd} {e : Expr} {es : List Expr} {ms : List Sm} (slot : Slot "list" name id) (hty : typeOf (.builtin id) = pure (.type "method_descriptor")) (hm : MtR X id r) (hf : PMu X.K r f)
    (mb : MBs X o name (e :: es) apos pos) (ho : SO X o oo) (ha : SA X (e :: es) ms) : SE X (.Call (.Attribute o name apos) (e :: es) [] pos) (cMu isLst f oo ms) := by
  intro σ H W l g Q ok p
  have hs : starEach (e :: es) X.env = (false, eval e X.env) :: starEach es X.env := by cases ha with | cons _ h _ => exact h
  have hpl : (backTo pos (starEach es X.env)).any (·.1) = false := by cases ha with | cons _ _ h => exact h.plain
  have tyL : ∀ {W : Wd} {H : Hp} {l : Lc} {g : Gs} {pl : Option Pl} {rv : V}, Ok X.K W l g σ H → isK isLst l g pl = true → (∀ q, pl = some q → ∃ a, rv = .ref a ∧ PlA W σ a q) → tyV X.K "list" rv H := by
    intro W H l g pl rv ok hk hr
    cases pl with
    | none => cases hk
    | some pl =>
      obtain ⟨a, rfl, ha⟩ := hr pl rfl
      simp only [isK] at hk
      cases hg : getP l g pl with
      | none => rw [hg] at hk; cases hk
      | some d =>
        have ob := getP_ob ok ha hg
        cases ob with
        | lst h1 h2 => exact .inl ⟨rfl, _, SqL.of h1⟩
        | dct h1 h2 => rw [hg] at hk; cases hk
        | dcu h1 h2 => rw [hg] at hk; cases hk
  let ta : TA := fun σ' H' R => ∃ t, PA X (e :: es) t ∧ t σ' H' R
  have hta : PA X (e :: es) ta := ⟨fun pos pins s σ' H' R I ⟨t, ht, q⟩ => ht.run pos pins s σ' H' R I q⟩
  cases ho with
  | ev ho =>
    refine tW.of (pe_bm PySem.F.plainAttrs_list slot hty hm pe_w hta mb.base mb.few mb.line hs hpl) ?_
    refine ho.bindV ok p fun d f' l1 g1 v W1 H1 p1 ok1 fr1 le1 den => ?_
    by_cases hk : isK isLst l1 g1 (refP d) = true
    · rw [if_pos hk] at p1
      have addr : ∀ {W2 : Wd} {H2 : Hp}, Den X.K W2 H2 v d → ∀ q, refP d = some q → ∃ a, v = .ref a ∧ PlA W2 σ a q := fun {W2 H2} den q hq => by
        cases d with
        | ref n => cases hq; cases den with | ref hm => exact ⟨_, rfl, hm⟩
        | _ => cases hq
      refine ⟨tyL ok1 hk (addr den), sa (R := fun xs H2 => r v xs H2 Q) ha ok1 p1 fun ds vs W2 H2 l2 g2 p2 ok2 fr2 den2 => ?_⟩
      exact muFin_ok hf ok2 p2 (addr (den.le (ok1.le fr2))) den2
    · rw [if_neg hk] at p1; exact False.elim p1
  | @pk j ho =>
    simp only [cMu] at p
    by_cases hk : isK isLst l g (slotP l j) = true
    · rw [if_pos hk] at p
      obtain ⟨pl, epl⟩ : ∃ pl, slotP l j = some pl := by
        cases q : slotP l j with
        | none => rw [q] at hk; cases hk
        | some pl => exact ⟨pl, rfl⟩
      obtain ⟨v, ev⟩ := slotP_some ok epl
      refine tW.of (pe_bm PySem.F.plainAttrs_list slot hty hm ho hta mb.base mb.few mb.line hs hpl) ⟨v, ev, tyL ok hk (fun q hq => slotP_addr ok hq ev), ?_⟩
      exact sa (R := fun xs H2 => r v xs H2 Q) ha ok p fun ds vs W2 H2 l2 g2 p2 ok2 fr2 den2 => muFin_ok hf ok2 p2 (fun q hq => slotP_addr ok2 hq ev) den2
    · rw [if_neg hk] at p; exact False.elim p
theorem se_mu0 {id : String} {name : Str} {r : V → List V → Hp → VK → Prop} {f : Mu} {oo : Opd} (slot : Slot "list" name id) (hty : typeOf (.builtin id) = pure (.type "method_descriptor")) (hm : MtR X id r) (hf : PMu X.K r f)
    (mb : MB X o name apos pos) (ho : SO X o oo) : SE X (.Call (.Attribute o name apos) [] [] pos) (cMu isLst f oo []) := by
  intro σ H W l g Q ok p
  have tyL : ∀ {W : Wd} {H : Hp} {l : Lc} {g : Gs} {pl : Option Pl} {rv : V}, Ok X.K W l g σ H → isK isLst l g pl = true → (∀ q, pl = some q → ∃ a, rv = .ref a ∧ PlA W σ a q) → tyV X.K "list" rv H := by
    intro W H l g pl rv ok hk hr
    cases pl with
    | none => cases hk
    | some pl =>
      obtain ⟨a, rfl, ha⟩ := hr pl rfl
      simp only [isK] at hk
      cases hg : getP l g pl with
      | none => rw [hg] at hk; cases hk
      | some d =>
        have ob := getP_ob ok ha hg
        cases ob with
        | lst h1 h2 => exact .inl ⟨rfl, _, SqL.of h1⟩
        | dct h1 h2 => rw [hg] at hk; cases hk
        | dcu h1 h2 => rw [hg] at hk; cases hk
  cases ho with
  | ev ho =>
    refine tW.of (pe_bm0 PySem.F.plainAttrs_list slot hty hm pe_w mb.base mb.line) ?_
    refine ho.bindV ok p fun d f' l1 g1 v W1 H1 p1 ok1 fr1 le1 den => ?_
    by_cases hk : isK isLst l1 g1 (refP d) = true
    · rw [if_pos hk] at p1
      have addr : ∀ {W2 : Wd} {H2 : Hp}, Den X.K W2 H2 v d → ∀ q, refP d = some q → ∃ a, v = .ref a ∧ PlA W2 σ a q := fun {W2 H2} den q hq => by
        cases d with
        | ref n => cases hq; cases den with | ref hm => exact ⟨_, rfl, hm⟩
        | _ => cases hq
      exact ⟨tyL ok1 hk (addr den), muFin_ok hf ok1 p1 (addr den) .nil⟩
    · rw [if_neg hk] at p1; exact False.elim p1
  | @pk j ho =>
    simp only [cMu] at p
    by_cases hk : isK isLst l g (slotP l j) = true
    · rw [if_pos hk] at p
      obtain ⟨pl, epl⟩ : ∃ pl, slotP l j = some pl := by
        cases q : slotP l j with
        | none => rw [q] at hk; cases hk
        | some pl => exact ⟨pl, rfl⟩
      obtain ⟨v, ev⟩ := slotP_some ok epl
      exact tW.of (pe_bm0 PySem.F.plainAttrs_list slot hty hm ho mb.base mb.line) ⟨v, ev, tyL ok hk (fun q hq => slotP_addr ok hq ev), muFin_ok hf ok p (fun q hq => slotP_addr ok hq ev) .nil⟩
    · rw [if_neg hk] at p; exact False.elim p

def muAppend : Mu
  | .lst ds, [x] => if ds.length < sizeLine then some (.lst (ds ++ [x]), .non) else none
  | _, _ => none
theorem pmu_append : PMu K rAppend muAppend where
  lst := fun d xs r h => by
    unfold muAppend at h
    split at h
    · rfl
    · cases h
  run := fun a vs xs ds es d' y W H Q h1 h2 h3 h4 k => by
    unfold muAppend at h4
    split at h4
    · rename_i ds' x e1
      cases e1
      split at h4
      · rename_i hl
        cases h4
        cases h3 with
        | cons hx hn =>
          cases hn
          exact ⟨a, xs, _, rfl, rfl, h1, by rw [h2.length]; exact hl, k _ _ .non rfl (h2.append (.cons hx .nil)) .non⟩
      · cases h4
    · cases h4
def muPop : Mu
  | .lst ds, [] => match ds[ds.length - 1]? with
    | some x => some (.lst ds.dropLast, x)
    | none => none
  | _, _ => none
theorem DenL.dropLast {xs : List V} {ds : List D} (h : DenL K W H xs ds) : DenL K W H xs.dropLast ds.dropLast := by
  rw [List.dropLast_eq_take, List.dropLast_eq_take, h.length]
  exact h.take _
theorem pmu_pop : PMu K rPop muPop where
  lst := fun d xs r h => by
    unfold muPop at h
    split at h
    · rfl
    · cases h
  run := fun a vs xs ds es d' y W H Q h1 h2 h3 h4 k => by
    unfold muPop at h4
    split at h4
    · rename_i ds' e1
      cases e1
      split at h4
      · rename_i x ex
        cases h4
        cases h3
        obtain ⟨w, ew, hw⟩ := h2.get ex
        exact ⟨a, xs, w, rfl, rfl, h1, by rw [h2.length]; exact ew, k _ _ w rfl h2.dropLast hw⟩
      · cases h4
    · cases h4
def muRev : Mu
  | .lst ds, [] => some (.lst ds.reverse, .non)
  | _, _ => none
theorem pmu_rev : PMu K rReverse muRev where
  lst := fun d xs r h => by
    unfold muRev at h
    split at h
    · rfl
    · cases h
  run := fun a vs xs ds es d' y W H Q h1 h2 h3 h4 k => by
    unfold muRev at h4
    split at h4
    · rename_i ds' e1
      cases e1
      cases h4
      cases h3
      exact ⟨a, xs, rfl, rfl, h1, k _ _ .non rfl h2.reverse .non⟩
    · cases h4

/-! ### targets -/
inductive Tg where
  | nm (i : Nat) | tp (ts : List Nat)
def seqOf : D → Option (List D)
  | .tup ds => some ds
  | .ftup ds => some ds
  | .lst ds => some ds
  | .ctup ds => some ds
  | .clst ds => some ds
  | _ => none
def setAll : List Nat → List D → Lc → Lc
  | i :: is, d :: ds, l => setAll is ds (l.set i (some (.val d)))
  | _, _, l => l
def Tg.put (t : Tg) (d : D) (l : Lc) (g : Gs) : Option Lc := match t with
  | .nm i => some (l.set i (some (.val d)))
  | .tp is => match seqOf (d.cont g) with
    | some ds => if ds.length = is.length then some (setAll is ds l) else none
    | none => none
def Tg.slots : Tg → List Nat
  | .nm i => [i]
  | .tp is => is
/-- no other slot than these was written -/
structure Only (is : List Nat) (σ σ' : L2.St) : Prop where
  len : σ'.length = σ.length
  out : ∀ i, i ∉ is → σ'[i]? = σ[i]?
/-- a target's rule -/
def SG (X : Cx) (tg : Expr) (t : Tg) : Prop := ∀ (σ : L2.St) (H : Hp) (W : Wd) (l : Lc) (g : Gs) (v : V) (d : D) (l' : Lc) (Q : L2.St → Hp → Prop), Ok X.K W l g σ H → Den X.K W H v d → t.put d l g = some l' →
  (∀ σ', Ok X.K W l' g σ' H → Fr W H (OwnA l σ) W H (OwnA l' σ') → Only t.slots σ σ' → Q σ' H) → tG X tg v σ H Q
theorem sg_name {i : Nat} {x : Str} (hN : X.N.Nodup) (hi : X.N[i]? = some x) (hx : Loc X.env.scope x) (hf : X.fn x = true ∨ X.env.scope.names.lookup x = some .local) : SG X (.Name x pos) (.nm i) := by
  intro σ H W l g v d l' Q ok den h k pins s u I r
  cases h
  obtain ⟨ok', fr'⟩ := ok.setVal (i := i) den
  exact (pg_name hN hi hx hf).run pins s σ H v u Q I r (k _ ok' fr' ⟨by simp, fun j hj => List.getElem?_set_ne (fun z => hj (by simp [Tg.slots, z]))⟩)
/-- names, in order -/
inductive Nms (X : Cx) : List Expr → List Nat → Prop
  | nil : Nms X [] []
  | cons {x : Str} {p : Pos} {es : List Expr} {i : Nat} {is : List Nat} : PG X (.Name x p) (gName i) → Nms X es is → Nms X (.Name x p :: es) (i :: is)
theorem Nms.run {es : List Expr} {is : List Nat} (h : Nms X es is) : ∃ t, PGs X es t ∧ ∀ (vs : List V) (ds : List D) (σ : L2.St) (W : Wd) (H : Hp) (l : Lc) (g : Gs) (Q : L2.St → Hp → Prop), Ok X.K W l g σ H → DenL X.K W H vs ds → ds.length = is.length →
    (∀ σ', Ok X.K W (setAll is ds l) g σ' H → Fr W H (OwnA l σ) W H (OwnA (setAll is ds l) σ') → Only is σ σ' → Q σ' H) → t vs σ H Q := by
  induction h with
  | nil =>
    refine ⟨gNil, pgs_nil, fun vs ds σ W H l g Q ok hd hl k => ?_⟩
    cases ds with
    | nil => cases hd; exact ⟨rfl, k σ ok Fr.refl ⟨rfl, fun _ _ => rfl⟩⟩
    | cons _ _ => simp at hl
  | @cons x p es i is h1 h2 ih =>
    obtain ⟨t, ht, ih⟩ := ih
    refine ⟨gCons (gName i) t, pgs_cons h1 ht, fun vs ds σ W H l g Q ok hd hl k => ?_⟩
    cases hd with
    | nil => simp at hl
    | @cons v vs d ds hv hd =>
      obtain ⟨ok', fr'⟩ := ok.setVal (i := i) hv
      exact ⟨v, vs, rfl, ih vs ds _ W H _ g Q ok' hd (by simpa using hl) fun σ' ok2 fr2 on => k σ' ok2 (fr'.trans fr2) ⟨by rw [on.len]; simp, fun j hj => by
        rw [on.out j fun z => hj (List.mem_cons_of_mem _ z)]
        exact List.getElem?_set_ne fun z => hj (by simp [z])⟩⟩
theorem Nms.len {es : List Expr} {is : List Nat} (h : Nms X es is) : (assignEach es X.env).length = is.length ∧ (assignEach es X.env).findIdx? (·.1) = none := by
  induction h with
  | nil => exact ⟨rfl, rfl⟩
  | cons h1 h2 ih =>
    refine ⟨?_, ?_⟩
    · show (assignEach _ X.env).length + 1 = _
      rw [ih.1]; rfl
    · show List.findIdx? _ ((false, _) :: assignEach _ X.env) = none
      rw [List.findIdx?_cons, ih.2]; rfl
theorem sg_tuple (hc : X.calm = true) {es : List Expr} {is : List Nat} {k : Nat} (h : Nms X es is) : SG X (.Tuple es k pos) (.tp is) := by
  intro σ H W l g v d l' Q ok den hp kq pins s u I r
  unfold Tg.put at hp
  simp only at hp
  have c := Con.of_den ok.rep den
  obtain ⟨t, ht, hrun⟩ := h.run
  cases hs : seqOf (d.cont g) with
  | none => rw [hs] at hp; cases hp
  | some ds =>
    rw [hs] at hp
    simp only at hp
    split at hp
    · rename_i hl
      cases hp
      cases hd : d.cont g with
      | tup ds' =>
        rw [hd] at hs c; cases hs
        obtain ⟨a, xs, rfl, h1, h2⟩ := c.tup
        refine (pg_tup (pos := pos) (k := k) hc ht h.len.1 h.len.2).run pins s σ H _ u Q I r ⟨a, xs, rfl, h1, by rw [h2.length]; exact hl, ?_⟩
        exact hrun xs ds σ W H l g Q ok h2 hl kq
      | ftup ds' =>
        rw [hd] at hs c; cases hs
        obtain ⟨a, xs, rfl, h1, h2⟩ := c.ftup
        refine (pg_tup (pos := pos) (k := k) hc ht h.len.1 h.len.2).run pins s σ H _ u Q I r ⟨a, xs, rfl, h1, by rw [h2.length]; exact hl, ?_⟩
        exact hrun xs ds σ W H l g Q ok h2 hl kq
      | lst ds' =>
        rw [hd] at hs c; cases hs
        obtain ⟨a, xs, rfl, h1, h2⟩ := c.lst
        refine (pg_unl (pos := pos) (k := k) hc ht h.len.1 h.len.2).run pins s σ H _ u Q I r ⟨a, xs, rfl, h1, by rw [h2.length]; exact hl, ?_⟩
        exact hrun xs ds σ W H l g Q ok h2 hl kq
      | ctup ds' =>
        rw [hd] at hs c; cases hs
        obtain ⟨a, xs, rfl, h1, h2⟩ := c.ctup
        refine (pg_tup (pos := pos) (k := k) hc ht h.len.1 h.len.2).run pins s σ H _ u Q I r ⟨a, xs, rfl, h1, by rw [h2.length]; exact hl, ?_⟩
        exact hrun xs ds σ W H l g Q ok h2 hl kq
      | clst ds' =>
        rw [hd] at hs c; cases hs
        obtain ⟨a, xs, rfl, h1, h2⟩ := c.clst
        refine (pg_unl (pos := pos) (k := k) hc ht h.len.1 h.len.2).run pins s σ H _ u Q I r ⟨a, xs, rfl, h1.sq, by rw [h2.length]; exact hl, ?_⟩
        exact hrun xs ds σ W H l g Q ok h2 hl kq
      | _ => rw [hd] at hs; cases hs
    · cases hp
end
end Y
namespace Y
variable [TabC]
open PySem L2

/-! ### what is walked -/
/-- the box that is walked, what it holds -/
abbrev Gd := Option (Nat × List D)
inductive IR where
  | ok (ds : List D) (gd : Gd) (l : Lc) (g : Gs)
  | no
abbrev Im := Lc → Gs → IR
/-- the walked box is as it was -/
def gdOk (gd : Gd) (ds : List D) (g : Gs) : Bool := match gd with
  | none => true
  | some p => match boxD g[p.1]? with
    | some (.lst es) => decide (es = p.2)
    | _ => false
structure JOk (K : PySem.W.Frag) (J : It) (ds : List D) (P : Wd → Gs → Hp → Prop) : Prop where
  go : ∀ i W g H, P W g H → i < ds.length → J.go i H
  stop : ∀ i W g H, P W g H → ds.length ≤ i → J.stop i H
  yld : ∀ i x W g H H', P W g H → i < ds.length → J.yld i H x H' → ∃ d, ds[i]? = some d ∧ NewV K W H x H' d false
/-- all through a walk that began at (W1, H1, O1) -/
def Live (K : PySem.W.Frag) (W1 : Wd) (H1 : Hp) (O1 : Addr → Prop) (gd : Gd) (ds : List D) (W : Wd) (g : Gs) (H : Hp) : Prop :=
  Rep K W g H ∧ (∃ O, Fr W1 H1 O1 W H O) ∧ Le W1 H1 W H ∧ gdOk gd ds g = true
def tI (X : Cx) (tg iter : Expr) : TI := fun σ H R => ∀ (pins : List (Addr × Obj)) (s : Shared), Inv X pins σ H s →
  wpAny (model X.prog X.w) X.A (eval iter X.env) (fun v s1 => wpAny (model X.prog X.w) X.A (pyIter v) (PIE X pins σ tg R) X.xe s1) X.xe s
theorem pi_i {X : Cx} {tg iter : Expr} : PI X tg iter (tI X tg iter) := ⟨fun pins s σ H R I h => h pins s I⟩
theorem tI.of {X : Cx} {tg iter : Expr} {t : TI} {σ : L2.St} {H : Hp} {R : It → Hp → Prop} (h : PI X tg iter t) (q : t σ H R) : tI X tg iter σ H R := fun pins s I => h.run pins s σ H R I q
def SI (X : Cx) (tg iter : Expr) (m : Im) : Prop := ∀ (σ : L2.St) (H : Hp) (W : Wd) (l : Lc) (g : Gs) (ds : List D) (gd : Gd) (l1 : Lc) (g1 : Gs) (R : It → Hp → Prop), Ok X.K W l g σ H → m l g = .ok ds gd l1 g1 →
  (∀ J W1 H1, Ok X.K W1 l1 g1 σ H1 → Fr W H (OwnA l σ) W1 H1 (OwnA l1 σ) → gdOk gd ds g1 = true → JOk X.K J ds (Live X.K W1 H1 (OwnA l1 σ) gd ds) → R J H1) → tI X tg iter σ H R

section
variable {X : Cx} {K : PySem.W.Frag} {W W1 : Wd} {H H1 : Hp} {σ σ1 : L2.St} {l l1 : Lc} {g g1 : Gs} {e a b tg : Expr} {m : Sm} {pos p0 : Pos}
/-! ### lists, tuples, texts -/
def signs (z : Str) : List D := z.cps.toList.map fun c => .str ⟨#[c]⟩
/-- the items of what a value is, the box that is walked -/
def itemsOf (d : D) (g : Gs) : Option (List D × Gd) := match d with
  | .ctup ds => some (ds, none)
  | .clst ds => some (ds, none)
  | .ftup ds => some (ds, none)
  | .tup ds => some (ds, none)
  | .lst ds => some (ds, none)
  | .str z => some (signs z, none)
  | .dct ps => some (ps.map (·.1), none)
  | .dcu ps => some (ps.map (·.1), none)
  | .ref n => match boxD g[n]? with
    | some (.lst ds) => some (ds, some (n, ds))
    | _ => none
  | _ => none
def iPlain (m : Sm) : Im := fun l g => match m l g with
  | .ok d _ l g => (match itemsOf d g with
    | some (ds, gd) => .ok ds gd l g
    | none => .no)
  | _ => .no
theorem Le.trans {W2 : Wd} {H2 : Hp} (a : Le W H W1 H1) (b : Le W1 H1 W2 H2) : Le W H W2 H2 := by
  refine ⟨?_, fun x h => b.sub x (a.sub x h), fun x o h f => ?_, fun x xs h => b.tup x xs (a.tup x xs h), fun x o u h => b.frz x o u (a.frz x o u h)⟩
  · obtain ⟨m1, e1⟩ := a.mu
    obtain ⟨m2, e2⟩ := b.mu
    exact ⟨m1 ++ m2, by rw [e2, e1, List.append_assoc]⟩
  · rcases a.shr x o h f with e | ⟨kvs, ob, e1, e2⟩
    · exact b.shr x o e (a.sub x f)
    · exact .inr ⟨kvs, ob, e1, b.frz x _ _ e2⟩
/-- the dict is locked from now on -/
def FrzTo (H : Hp) (a : Addr) (kvs : List (Key × V)) (o : Obj) (H2 : Hp) : Prop := (H a = some (.dK kvs) ∧ H2 = upd H a (.frz o (.dK kvs))) ∨ (H a = some (.frz o (.dK kvs)) ∧ H2 = H)
theorem FrzTo.at_ {a : Addr} {kvs : List (Key × V)} {o : Obj} {H2 : Hp} (h : FrzTo H a kvs o H2) : H2 a = some (.frz o (.dK kvs)) := by
  rcases h with ⟨_, rfl⟩ | ⟨h, rfl⟩
  · exact upd_same
  · exact h
theorem Ok.freeze {a : Addr} {kvs : List (Key × V)} {o : Obj} {H2 : Hp} {O : Addr → Prop} (ok : Ok K W l g σ H) (d : DkF W H a kvs) (z : FrzTo H a kvs o H2) : Ok K W l g σ H2 ∧ Fr W H O W H2 O ∧ Le W H W H2 := by
  rcases z with ⟨h, rfl⟩ | ⟨h, rfl⟩
  · have f : W.F a := by
      rcases d with ⟨f, _⟩ | ⟨_, e⟩
      · exact f
      · rw [h] at e; cases e
    have kne : ∀ b, b ≠ a → ∀ v, H b = some v → upd H a (.frz o (.dK kvs)) b = some v := fun b hb v e => by rw [upd_ne hb]; exact e
    have ne : ∀ b u, H b = some u → u ≠ .dK kvs → b ≠ a := fun b u e hu z => by rw [z, h] at e; cases e; exact hu rfl
    have fz : ∀ b v, H b = some v → upd H a (.frz o (.dK kvs)) b = some v ∨ Frzn (upd H a (.frz o (.dK kvs))) b v := fun b v e => by
      by_cases hb : b = a
      · subst hb
        rw [h] at e; cases e
        exact .inr ⟨.inl ⟨_, rfl⟩, _, trivial, upd_same⟩
      · exact .inl (kne b hb v e)
    have L : Le W H W (upd H a (.frz o (.dK kvs))) := ⟨⟨[], by simp⟩, fun _ h => h, fun b v e _ => fz b v e, fun b xs e => kne b (ne b _ e (by simp)) _ e, fun b o' u e => kne b (ne b _ e (by simp)) _ e⟩
    have dom : ∀ b, H b ≠ none → upd H a (.frz o (.dK kvs)) b ≠ none := fun b hb => by
      unfold upd; split
      · simp
      · exact hb
    refine ⟨⟨⟨ok.rep.len, ok.rep.nd, fun n b x q1 q2 => (ok.rep.ob n b x q1 q2).le L (kne b fun q => ok.rep.dis a f (q ▸ List.mem_of_getElem? q1)), ok.rep.dis, fun b hb => ?_, ok.rep.tabs.put h .dK fun b u hb e => kne b hb u e⟩, ⟨ok.loc.len, fun i d h => ?_, fun i d h => ?_, ok.loc.dist⟩⟩,
      ⟨⟨[], by simp, by simp⟩, fun _ h => h, fun _ h => .inl h, fun b v e _ _ _ nf => kne b (fun q => nf (q ▸ f)) v e, dom, fun _ h => .inl h, fun b v e _ _ _ => fz b v e⟩, L⟩
    · by_cases hb' : b = a
      · exact ⟨_, by rw [hb']; exact upd_same, .frz⟩
      · obtain ⟨v, e, pv⟩ := ok.rep.fd b hb
        exact ⟨v, kne b hb' v e, pv⟩
    · obtain ⟨v, e, dn⟩ := ok.loc.val i d h
      exact ⟨v, e, dn.le L⟩
    · obtain ⟨b, e, ob, n1, n2⟩ := ok.loc.own i d h
      exact ⟨b, e, ob.le L (kne b fun q => n2 (q ▸ f)), n1, n2⟩
  · exact ⟨ok, Fr.refl, Le.refl⟩
/-- the same, its keys tuples -/
def FrzToT (H : Hp) (a : Addr) (kvs : List (List Key × V)) (o : Obj) (H2 : Hp) : Prop := (H a = some (.dT kvs) ∧ H2 = upd H a (.frz o (.dT kvs))) ∨ (H a = some (.frz o (.dT kvs)) ∧ H2 = H)
theorem FrzToT.at_ {a : Addr} {kvs : List (List Key × V)} {o : Obj} {H2 : Hp} (h : FrzToT H a kvs o H2) : H2 a = some (.frz o (.dT kvs)) := by
  rcases h with ⟨_, rfl⟩ | ⟨h, rfl⟩
  · exact upd_same
  · exact h
theorem Ok.freezeT {a : Addr} {kvs : List (List Key × V)} {o : Obj} {H2 : Hp} {O : Addr → Prop} (ok : Ok K W l g σ H) (d : DtF W H a kvs) (z : FrzToT H a kvs o H2) : Ok K W l g σ H2 ∧ Fr W H O W H2 O ∧ Le W H W H2 := by
  rcases z with ⟨h, rfl⟩ | ⟨h, rfl⟩
  · have f : W.F a := by
      rcases d with ⟨f, _⟩ | ⟨_, e⟩
      · exact f
      · rw [h] at e; cases e
    have kne : ∀ b, b ≠ a → ∀ v, H b = some v → upd H a (.frz o (.dT kvs)) b = some v := fun b hb v e => by rw [upd_ne hb]; exact e
    have ne : ∀ b u, H b = some u → u ≠ .dT kvs → b ≠ a := fun b u e hu z => by rw [z, h] at e; cases e; exact hu rfl
    have fz : ∀ b v, H b = some v → upd H a (.frz o (.dT kvs)) b = some v ∨ Frzn (upd H a (.frz o (.dT kvs))) b v := fun b v e => by
      by_cases hb : b = a
      · subst hb
        rw [h] at e; cases e
        exact .inr ⟨.inr ⟨_, rfl⟩, _, trivial, upd_same⟩
      · exact .inl (kne b hb v e)
    have L : Le W H W (upd H a (.frz o (.dT kvs))) := ⟨⟨[], by simp⟩, fun _ h => h, fun b v e _ => fz b v e, fun b xs e => kne b (ne b _ e (by simp)) _ e, fun b o' u e => kne b (ne b _ e (by simp)) _ e⟩
    have dom : ∀ b, H b ≠ none → upd H a (.frz o (.dT kvs)) b ≠ none := fun b hb => by
      unfold upd; split
      · simp
      · exact hb
    refine ⟨⟨⟨ok.rep.len, ok.rep.nd, fun n b x q1 q2 => (ok.rep.ob n b x q1 q2).le L (kne b fun q => ok.rep.dis a f (q ▸ List.mem_of_getElem? q1)), ok.rep.dis, fun b hb => ?_, ok.rep.tabs.put h .dT fun b u hb e => kne b hb u e⟩, ⟨ok.loc.len, fun i d h => ?_, fun i d h => ?_, ok.loc.dist⟩⟩,
      ⟨⟨[], by simp, by simp⟩, fun _ h => h, fun _ h => .inl h, fun b v e _ _ _ nf => kne b (fun q => nf (q ▸ f)) v e, dom, fun _ h => .inl h, fun b v e _ _ _ => fz b v e⟩, L⟩
    · by_cases hb' : b = a
      · exact ⟨_, by rw [hb']; exact upd_same, .frz⟩
      · obtain ⟨v, e, pv⟩ := ok.rep.fd b hb
        exact ⟨v, kne b hb' v e, pv⟩
    · obtain ⟨v, e, dn⟩ := ok.loc.val i d h
      exact ⟨v, e, dn.le L⟩
    · obtain ⟨b, e, ob, n1, n2⟩ := ok.loc.own i d h
      exact ⟨b, e, ob.le L (kne b fun q => n2 (q ▸ f)), n1, n2⟩
  · exact ⟨ok, Fr.refl, Le.refl⟩
/-- an expression to be walked: any kind that pi_list, pi_tup, pi_str serve -/
def iAny (K : PySem.W.Frag) (te : TE) : TI := fun σ H R => te σ H fun x H1 => (∃ a, x = .ref a ∧ (∃ xs, SqL K H1 a xs) ∧ R (Itl K a) H1) ∨ (∃ a, x = .ref a ∧ (∃ xs, SqT K H1 a xs) ∧ R (Itt K a) H1) ∨ (∃ z, x = .str z ∧ R (Its z) H1) ∨ (∃ a kvs, x = .ref a ∧ Rd H1 a (.dK kvs) ∧ ∀ o H2, FrzTo H1 a kvs o H2 → R (Itk a o kvs) H2) ∨ ∃ a kvs, x = .ref a ∧ Rd H1 a (.dT kvs) ∧ ∀ o H2, FrzToT H1 a kvs o H2 → R (Itkt a o kvs) H2
theorem iter_any1 {R : It → Hp → Prop} {x : V} {v : Value} {pins : List (Addr × Obj)} {s : Shared} (I : Inv X pins σ H s) (r : RelV x v)
    (q : (∃ a, x = .ref a ∧ (∃ xs, SqL X.K H a xs) ∧ R (Itl X.K a) H) ∨ (∃ a, x = .ref a ∧ (∃ xs, SqT X.K H a xs) ∧ R (Itt X.K a) H) ∨ (∃ z, x = .str z ∧ R (Its z) H) ∨ (∃ a kvs, x = .ref a ∧ Rd H a (.dK kvs) ∧ ∀ o H2, FrzTo H a kvs o H2 → R (Itk a o kvs) H2) ∨ ∃ a kvs, x = .ref a ∧ Rd H a (.dT kvs) ∧ ∀ o H2, FrzToT H a kvs o H2 → R (Itkt a o kvs) H2) :
    wpAny (model X.prog X.w) X.A (pyIter v) (PIE X pins σ tg R) X.xe s := by
  -- by the rules for each kind, over an expression whose value is v: a constant that is never written
  rcases q with ⟨a, rfl, ⟨xs, hq⟩, q⟩ | ⟨a, rfl, ⟨xs, hq⟩, q⟩ | ⟨z, rfl, q⟩ | ⟨a, kvs, rfl, hq, q⟩ | ⟨a, kvs, rfl, hq, q⟩
  · cases r
    obtain ⟨its, rv, p, hz⟩ := I.list hq
    refine wpAny_pyIter_list p.isList ?_
    refine ⟨s.heap.objs.size, [s.heap.objs.size], _, _, H, rfl, I.kept (t' := s.toks) fun b o e => Heap.get?_push_of_some _ e, turn_list a _, ⟨_, Heap.get?_push_size _ rfl, rfl, rfl⟩, fun b hb => ?_, q⟩
    have e : b = s.heap.objs.size := by simpa using hb
    subst e
    exact I.fpOk (Nat.le_refl _) (I.hok.fresh (Nat.le_refl _))
  · cases r
    obtain ⟨its, rv, p, hz⟩ := I.tuple hq
    refine wpAny_pyIter_tuple (show s.heap.IsTuple a its.toArray from p) ?_
    refine ⟨s.heap.objs.size, [s.heap.objs.size], _, _, H, rfl, I.kept (t' := s.toks) fun b o e => Heap.get?_push_of_some _ e, turn_tuple a _, ⟨_, Heap.get?_push_size _ rfl, rfl, rfl⟩, fun b hb => ?_, q⟩
    have e : b = s.heap.objs.size := by simpa using hb
    subst e
    exact I.fpOk (Nat.le_refl _) (I.hok.fresh (Nat.le_refl _))
  · obtain ⟨t, rfl⟩ := r
    cases ha : z.cps.all (· < 128)
    · exact wpAny_pyIter_wide ha (pi_one (tk := s.toks) I _ (turn_str _ z t "str_iterator" (.inr rfl)) ⟨_, Heap.get?_push_size _ rfl, rfl, rfl⟩ q)
    · exact wpAny_pyIter_ascii ha (pi_one (tk := s.toks) I _ (turn_str _ z t "str_ascii_iterator" (.inl rfl)) ⟨_, Heap.get?_push_size _ rfl, rfl, rfl⟩ q)
  · cases r
    obtain ⟨o, H2, I2, st⟩ : ∃ o H2, Inv X pins σ H2 s ∧ FrzTo H a kvs o H2 := by
      rcases hq with hq | ⟨o, hq⟩
      · obtain ⟨od, I2⟩ := I.lock hq trivial
        exact ⟨od, _, I2, .inl ⟨hq, rfl⟩⟩
      · exact ⟨o, H, I, .inr ⟨hq, rfl⟩⟩
    have q := q o H2 st
    obtain ⟨hs, hgd, hx, es, ep, vs, hdt, hsz, kv, hm⟩ := I2.frzK st.at_
    refine iter_keys hs hgd hx hdt (pi_one (tk := s.toks) I2 _ (turn_keys _ hdt) ⟨_, Heap.get?_push_size _ rfl, rfl, ?_⟩ q)
    rw [hsz] <;> rfl
  · cases r
    obtain ⟨o, H2, I2, st⟩ : ∃ o H2, Inv X pins σ H2 s ∧ FrzToT H a kvs o H2 := by
      rcases hq with hq | ⟨o, hq⟩
      · obtain ⟨od, I2⟩ := I.lock hq trivial
        exact ⟨od, _, I2, .inl ⟨hq, rfl⟩⟩
      · exact ⟨o, H, I, .inr ⟨hq, rfl⟩⟩
    have q := q o H2 st
    obtain ⟨hs, hgd, hx, es, ep, hdt, hsz, ent⟩ := I2.frzT st.at_
    refine iter_keys hs hgd hx hdt (pi_one (tk := s.toks) I2 _ (turn_keysT _ hdt) ⟨_, Heap.get?_push_size _ rfl, rfl, ?_⟩ q)
    rw [hsz] <;> rfl
theorem pi_any {te : TE} (he : PE X e te) : PI X tg e (iAny X.K te) := ⟨fun pins s σ H R I h => thn (he.run pins s σ H _ I h) fun v s1 ⟨x, H1, I1, r1, q⟩ => iter_any1 I1 r1 q⟩
theorem jok_list {a : Addr} {ds : List D} {P : Wd → Gs → Hp → Prop} (h : ∀ W g H, P W g H → ∃ xs, SqL K H a xs ∧ DenL K W H xs ds) : JOk K (Itl K a) ds P where
  go := fun i W g H p hi => by
    obtain ⟨xs, h1, h2⟩ := h W g H p
    have hi' : i < xs.length := by rw [h2.length]; exact hi
    exact ⟨xs, xs[i], h1, by simp [hi']⟩
  stop := fun i W g H p hi => by
    obtain ⟨xs, h1, h2⟩ := h W g H p
    exact ⟨xs, h1, by rw [h2.length]; exact hi⟩
  yld := fun i x W g H H' p hi y => by
    obtain ⟨xs, h1, h2⟩ := h W g H p
    obtain ⟨rfl, y⟩ := y
    obtain ⟨d, e, den⟩ := h2.getV (y xs h1)
    exact ⟨d, e, .same den⟩
theorem jok_tup {a : Addr} {ds : List D} {P : Wd → Gs → Hp → Prop} (h : ∀ W g H, P W g H → ∃ xs, SqT K H a xs ∧ DenL K W H xs ds) : JOk K (Itt K a) ds P where
  go := fun i W g H p hi => by
    obtain ⟨xs, h1, h2⟩ := h W g H p
    have hi' : i < xs.length := by rw [h2.length]; exact hi
    exact ⟨xs, xs[i], h1, by simp [hi']⟩
  stop := fun i W g H p hi => by
    obtain ⟨xs, h1, h2⟩ := h W g H p
    exact ⟨xs, h1, by rw [h2.length]; exact hi⟩
  yld := fun i x W g H H' p hi y => by
    obtain ⟨xs, h1, h2⟩ := h W g H p
    obtain ⟨rfl, y⟩ := y
    obtain ⟨d, e, den⟩ := h2.getV (y xs h1)
    exact ⟨d, e, .same den⟩
theorem jok_str {z : Str} {P : Wd → Gs → Hp → Prop} : JOk K (Its z) (signs z) P where
  go := fun i W g H p hi => by
    show i < z.cps.size
    simpa [signs] using hi
  stop := fun i W g H p hi => by
    show z.cps.size ≤ i
    simpa [signs] using hi
  yld := fun i x W g H H' p hi y => by
    obtain ⟨rfl, c, e, rfl⟩ := y
    refine ⟨.str ⟨#[c]⟩, ?_, .same (.str _)⟩
    have e' : z.cps.toList[i]? = some c := by simpa using e
    simp [signs, List.getElem?_map, e']
theorem jok_range {lo : Int} {n : Nat} {P : Wd → Gs → Hp → Prop} : JOk K (Itr lo n) ((List.range n).map fun i => D.int (lo + (i : Nat))) P where
  go := fun i W g H p hi => by
    show i < n
    simpa using hi
  stop := fun i W g H p hi => by
    show n ≤ i
    simpa using hi
  yld := fun i x W g H H' p hi y => by
    obtain ⟨rfl, rfl⟩ := y
    have hn : i < n := by simpa using hi
    exact ⟨.int (lo + (i : Nat)), by simp [hn], .same (.int _)⟩
def enumD (ds : List D) : List D := ds.mapIdx fun i d => .tup [.int (i : Nat), d]
theorem jok_enum {a : Addr} {ds : List D} {P : Wd → Gs → Hp → Prop} (h : ∀ W g H, P W g H → ∃ xs, SqL K H a xs ∧ DenL K W H xs ds) : JOk K (Ite K a) (enumD ds) P where
  go := fun i W g H p hi => by
    obtain ⟨xs, h1, h2⟩ := h W g H p
    have hi' : i < xs.length := by rw [h2.length]; simpa [enumD] using hi
    exact ⟨xs, xs[i], h1, by simp [hi']⟩
  stop := fun i W g H p hi => by
    obtain ⟨xs, h1, h2⟩ := h W g H p
    exact ⟨xs, h1, by rw [h2.length]; simpa [enumD] using hi⟩
  yld := fun i x W g H H' p hi y => by
    obtain ⟨xs, h1, h2⟩ := h W g H p
    obtain ⟨T, x0, rfl, hT, rfl, y⟩ := y
    obtain ⟨d, e, den⟩ := h2.getV (y xs h1)
    exact ⟨.tup [.int (i : Nat), d], by simp [enumD, e], .tup hT (.cons (.int _) (.cons den .nil))⟩
def zipD (ds es : List D) : List D := (ds.zip es).map fun p => .tup [p.1, p.2]
theorem zipD_length (ds es : List D) : (zipD ds es).length = min ds.length es.length := by simp [zipD]
theorem zipD_get {ds es : List D} {i : Nat} {d e : D} (h1 : ds[i]? = some d) (h2 : es[i]? = some e) : (zipD ds es)[i]? = some (.tup [d, e]) := by
  unfold zipD
  have : (ds.zip es)[i]? = some (d, e) := List.getElem?_zip_eq_some.mpr ⟨h1, h2⟩
  rw [List.getElem?_map, this]
  rfl
theorem jok_zip {a b : Addr} {ds es : List D} {P : Wd → Gs → Hp → Prop} (h : ∀ W g H, P W g H → ∃ xs ys, SqL K H a xs ∧ SqL K H b ys ∧ DenL K W H xs ds ∧ DenL K W H ys es) : JOk K (Itz K a b) (zipD ds es) P where
  go := fun i W g H p hi => by
    obtain ⟨xs, ys, h1, h2, h3, h4⟩ := h W g H p
    rw [zipD_length] at hi
    have hi1 : i < xs.length := by rw [h3.length]; omega
    have hi2 : i < ys.length := by rw [h4.length]; omega
    exact ⟨xs, ys, xs[i], ys[i], h1, h2, by simp [hi1], by simp [hi2]⟩
  stop := fun i W g H p hi => by
    obtain ⟨xs, ys, h1, h2, h3, h4⟩ := h W g H p
    rw [zipD_length] at hi
    exact ⟨xs, ys, h1, h2, by rw [h3.length, h4.length]; omega⟩
  yld := fun i x W g H H' p hi y => by
    obtain ⟨xs, ys, h1, h2, h3, h4⟩ := h W g H p
    obtain ⟨T, x0, y0, rfl, hT, rfl, y1, y2⟩ := y
    obtain ⟨d, e1, den1⟩ := h3.getV (y1 xs h1)
    obtain ⟨f, e2, den2⟩ := h4.getV (y2 ys h2)
    exact ⟨.tup [d, f], zipD_get e1 e2, .tup hT (.cons den1 (.cons den2 .nil))⟩
theorem jok_zipT {a b : Addr} {ds es : List D} {P : Wd → Gs → Hp → Prop} (h : ∀ W g H, P W g H → ∃ xs ys, SqT K H a xs ∧ SqT K H b ys ∧ DenL K W H xs ds ∧ DenL K W H ys es) : JOk K (RZ.ItzT K a b) (zipD ds es) P where
  go := fun i W g H p hi => by
    obtain ⟨xs, ys, h1, h2, h3, h4⟩ := h W g H p
    rw [zipD_length] at hi
    have hi1 : i < xs.length := by rw [h3.length]; omega
    have hi2 : i < ys.length := by rw [h4.length]; omega
    exact ⟨xs, ys, xs[i], ys[i], h1, h2, by simp [hi1], by simp [hi2]⟩
  stop := fun i W g H p hi => by
    obtain ⟨xs, ys, h1, h2, h3, h4⟩ := h W g H p
    rw [zipD_length] at hi
    exact ⟨xs, ys, h1, h2, by rw [h3.length, h4.length]; omega⟩
  yld := fun i x W g H H' p hi y => by
    obtain ⟨xs, ys, h1, h2, h3, h4⟩ := h W g H p
    obtain ⟨T, x0, y0, rfl, hT, rfl, y1, y2⟩ := y
    obtain ⟨d, e1, den1⟩ := h3.getV (y1 xs h1)
    obtain ⟨f, e2, den2⟩ := h4.getV (y2 ys h2)
    exact ⟨.tup [d, f], zipD_get e1 e2, .tup hT (.cons den1 (.cons den2 .nil))⟩
theorem rev_get {ds : List D} {i : Nat} (hi : i < ds.length) : ds.reverse[i]? = ds[ds.length - 1 - i]? := List.getElem?_reverse hi
theorem jok_rev {a : Addr} {ds : List D} {n : Nat} (hn : n = ds.length) {P : Wd → Gs → Hp → Prop} (h : ∀ W g H, P W g H → ∃ xs, SqL K H a xs ∧ DenL K W H xs ds) : JOk K (Itv K a n) ds.reverse P where
  go := fun i W g H p hi => by
    obtain ⟨xs, h1, h2⟩ := h W g H p
    rw [List.length_reverse] at hi
    have hi' : n - 1 - i < xs.length := by rw [h2.length]; omega
    exact ⟨by omega, xs, xs[n - 1 - i], h1, by simp [hi']⟩
  stop := fun i W g H p hi => by
    rw [List.length_reverse] at hi
    show n ≤ i
    omega
  yld := fun i x W g H H' p hi y => by
    obtain ⟨xs, h1, h2⟩ := h W g H p
    obtain ⟨rfl, y⟩ := y
    obtain ⟨d, e, den⟩ := h2.getV (y xs h1)
    rw [List.length_reverse] at hi
    exact ⟨d, by rw [rev_get hi, ← hn]; exact e, .same den⟩
theorem jok_revT {a : Addr} {ds : List D} {n : Nat} (hn : n = ds.length) {P : Wd → Gs → Hp → Prop} (h : ∀ W g H, P W g H → ∃ xs, SqT K H a xs ∧ DenL K W H xs ds) : JOk K (RT.ItvT K a n) ds.reverse P where
  go := fun i W g H p hi => by
    obtain ⟨xs, h1, h2⟩ := h W g H p
    rw [List.length_reverse] at hi
    have hi' : n - 1 - i < xs.length := by rw [h2.length]; omega
    exact ⟨by omega, xs, xs[n - 1 - i], h1, by simp [hi']⟩
  stop := fun i W g H p hi => by
    rw [List.length_reverse] at hi
    show n ≤ i
    omega
  yld := fun i x W g H H' p hi y => by
    obtain ⟨xs, h1, h2⟩ := h W g H p
    obtain ⟨rfl, y⟩ := y
    obtain ⟨d, e, den⟩ := h2.getV (y xs h1)
    rw [List.length_reverse] at hi
    exact ⟨d, by rw [rev_get hi, ← hn]; exact e, .same den⟩

theorem jok_keys {a : Addr} {o : Obj} {kvs : List (Key × V)} {ds : List D} {P : Wd → Gs → Hp → Prop} (h : ∀ W g H, P W g H → H a = some (.frz o (.dK kvs)) ∧ DenL K W H (kvs.map fun kv => kV kv.1) ds) : JOk K (Itk a o kvs) ds P where
  go := fun i W g H p hi => by
    obtain ⟨h1, h2⟩ := h W g H p
    have := h2.length
    rw [List.length_map] at this
    exact ⟨h1, by omega⟩
  stop := fun i W g H p hi => by
    obtain ⟨h1, h2⟩ := h W g H p
    have := h2.length
    rw [List.length_map] at this
    exact ⟨h1, by omega⟩
  yld := fun i x W g H H' p hi y => by
    obtain ⟨h1, h2⟩ := h W g H p
    obtain ⟨rfl, k, v, e, rfl⟩ := y
    obtain ⟨d, e', den⟩ := h2.getV (i := i) (v := kV k) (by rw [List.getElem?_map, e]; rfl)
    exact ⟨d, e', .same den⟩
theorem DenU.at_ {kvs : List (List Key × V)} {ps : List (D × D)} (h : DenU K W H kvs ps) {i : Nat} {k : List Key} {v : V} (e : kvs[i]? = some (k, v)) : (ps.map (·.1))[i]? = some (.tup (k.map keyD)) := by
  induction ps generalizing kvs i with
  | nil => cases h; cases e
  | cons p ps ih =>
    cases h with
    | cons h1 h =>
      cases i with
      | zero => cases e; rfl
      | succ i => exact ih h e
theorem jok_keysT {a : Addr} {o : Obj} {kvs : List (List Key × V)} {ps : List (D × D)} {P : Wd → Gs → Hp → Prop} (h : ∀ W g H, P W g H → H a = some (.frz o (.dT kvs)) ∧ DenU K W H kvs ps) : JOk K (Itkt a o kvs) (ps.map (·.1)) P where
  go := fun i W g H p hi => by
    obtain ⟨h1, h2⟩ := h W g H p
    have := h2.len
    rw [List.length_map] at hi
    exact ⟨h1, by omega⟩
  stop := fun i W g H p hi => by
    obtain ⟨h1, h2⟩ := h W g H p
    have := h2.len
    rw [List.length_map] at hi
    exact ⟨h1, by omega⟩
  yld := fun i x W g H H' p hi y => by
    obtain ⟨h1, h2⟩ := h W g H p
    obtain ⟨rfl, k, v, q, e, rfl, hq⟩ := y
    exact ⟨_, h2.at_ e, .same (.tup hq (DenL.ofKeys _))⟩
/-- a walked box holds its list -/
theorem live_ref {n : Nat} {es ds : List D} {a : Addr} (hm : W1.mu[n]? = some a) {W : Wd} {g : Gs} {H : Hp} (L : Live K W1 H1 (OwnA l1 σ) (some (n, es)) ds W g H) : ∃ xs, SqL K H a xs ∧ DenL K W H xs es := by
  obtain ⟨rep, _, le, gk⟩ := L
  simp only [gdOk] at gk
  cases hb2 : boxD g[n]? with
  | none => rw [hb2] at gk; cases gk
  | some d2 =>
    rw [hb2] at gk
    cases d2 with
    | lst es2 =>
      have e : es2 = es := of_decide_eq_true gk
      subst e
      obtain ⟨more, em⟩ := le.mu
      have hm' : W.mu[n]? = some a := by rw [em, List.getElem?_append_left (List.getElem?_eq_some_iff.mp hm).1]; exact hm
      have := rep.ob n a _ hm' (boxD_some hb2)
      cases this with
      | box ob => cases ob with | lst h1 h2 => exact ⟨_, SqL.of h1, h2⟩
    | _ => cases gk
/-- the content of what is walked stays -/
theorem stay_list {d : D} {f : Bool} {ds : List D} {gd : Gd} {v : V} {H0 : Hp} {O0 : Addr → Prop} (ok : Ok K W1 l1 g1 σ H1) (r : Res K W1 H0 O0 (OwnA l1 σ) H1 v d f) (hnd : ∀ ps, d ≠ .dct ps) (hnu : ∀ ps, d ≠ .dcu ps) (h : itemsOf d g1 = some (ds, gd)) :
    (∃ a, v = .ref a ∧ ∀ W g H, Live K W1 H1 (OwnA l1 σ) gd ds W g H → ∃ xs, SqL K H a xs ∧ DenL K W H xs ds) ∨ (∃ a, v = .ref a ∧ ∀ W g H, Live K W1 H1 (OwnA l1 σ) gd ds W g H → ∃ xs, SqT K H a xs ∧ DenL K W H xs ds) ∨
      (∃ z, v = .str z ∧ ds = signs z) := by
  cases f with
  | true =>
    obtain ⟨a, rfl, ob, n1, n2, n3, z⟩ := r
    cases ob with
    | lst h1 h2 =>
      cases h
      refine .inl ⟨a, rfl, fun W g H ⟨_, ⟨O, fr⟩, le, _⟩ => ⟨_, SqL.of (fr.keep a _ h1 (fun _ e => by cases e) n1 n3 n2), DenL.le le _ h2⟩⟩
    | dct h1 h2 => exact absurd rfl (hnd _)
    | dcu h1 h2 => exact absurd rfl (hnu _)
  | false =>
    have r : Den K W1 H1 v d := r
    cases d with
    | tup ds' =>
      cases h
      cases r with
      | tup h1 h2 => exact .inr (.inl ⟨_, rfl, fun W g H ⟨_, _, le, _⟩ => ⟨_, SqT.le le (SqT.of h1), DenL.le le _ h2⟩⟩)
    | ftup ds' =>
      cases h
      cases r with
      | ftup h1 h2 h3 h4 => exact .inr (.inl ⟨_, rfl, fun W g H ⟨_, _, le, _⟩ => ⟨_, SqT.le le (.inl (.inr ⟨_, h1⟩)), DenL.le le _ h4⟩⟩)
    | clst ds' =>
      cases h
      cases r with
      | clst h1 h2 => exact .inl ⟨_, rfl, fun W g H ⟨_, _, le, _⟩ => ⟨_, (SqC.le le h1).sq, DenL.le le _ h2⟩⟩
    | ctup ds' =>
      cases h
      cases r with
      | ctup h1 h2 => exact .inr (.inl ⟨_, rfl, fun W g H ⟨_, _, le, _⟩ => ⟨_, SqT.le le h1, DenL.le le _ h2⟩⟩)
    | lst ds' =>
      cases h
      cases r with
      | lst h1 h2 => exact .inl ⟨_, rfl, fun W g H ⟨_, _, le, _⟩ => ⟨_, (SqF.le le h1).sq, DenL.le le _ h2⟩⟩
    | str z =>
      cases h
      cases r
      exact .inr (.inr ⟨z, rfl, rfl⟩)
    | dct ps => exact absurd rfl (hnd _)
    | dcu ps => exact absurd rfl (hnu _)
    | ref n =>
      cases r with
      | @ref a _ hm =>
        simp only [itemsOf] at h
        cases hb : boxD g1[n]? with
        | none => rw [hb] at h; cases h
        | some d' =>
          rw [hb] at h
          cases d' with
          | lst es =>
            cases h
            refine .inl ⟨a, rfl, fun W g H ⟨rep, _, le, gk⟩ => ?_⟩
            simp only [gdOk] at gk
            cases hb2 : boxD g[n]? with
            | none => rw [hb2] at gk; cases gk
            | some d2 =>
              rw [hb2] at gk
              cases d2 with
              | lst es2 =>
                have e : es2 = ds := of_decide_eq_true gk
                subst e
                obtain ⟨more, em⟩ := le.mu
                have hm' : W.mu[n]? = some a := by rw [em, List.getElem?_append_left (List.getElem?_eq_some_iff.mp hm).1]; exact hm
                have := rep.ob n a _ hm' (boxD_some hb2)
                cases this with
                | box ob => cases ob with | lst h1 h2 => exact ⟨_, SqL.of h1, h2⟩
              | _ => cases gk
          | _ => cases h
    | _ => cases h
theorem si_plain (h : SE X e m) : SI X tg e (iPlain m) := by
  intro σ H W l g ds gd l1 g1 R ok em k
  unfold iPlain at em
  cases e1 : m l g with
  | ok d f l2 g2 =>
    rw [e1] at em
    simp only at em
    cases hi : itemsOf d g2 with
    | none => rw [hi] at em; cases em
    | some p =>
      obtain ⟨ds', gd'⟩ := p
      rw [hi] at em
      cases em
      refine tI.of (pi_any pe_w) (h σ H W l g _ ok ?_)
      rw [e1]
      intro v W' H' ok' fr' r'
      have gk : gdOk gd ds g1 = true := by
        cases d with
        | ref n =>
          simp only [itemsOf] at hi
          cases hb : boxD g1[n]? with
          | none => rw [hb] at hi; cases hi
          | some d' =>
            rw [hb] at hi
            cases d' with
            | lst es => cases hi; simp [gdOk, hb]
            | _ => cases hi
        | tup _ => cases hi; rfl
        | ctup _ => cases hi; rfl
        | clst _ => cases hi; rfl
        | ftup _ => cases hi; rfl
        | lst _ => cases hi; rfl
        | str _ => cases hi; rfl
        | dct _ => cases hi; rfl
        | dcu _ => cases hi; rfl
        | _ => cases hi
      by_cases hdc : ∃ ps, d = .dct ps
      · obtain ⟨ps, rfl⟩ := hdc
        obtain ⟨W2, ok2, fr2, le2, den⟩ := r'.shared ok' fr'
        cases den with
        | @dct a kvs _ h1 h2 =>
          cases hi
          refine .inr (.inr (.inr (.inl ⟨a, kvs, rfl, h1.rd, fun o H2 st => ?_⟩)))
          obtain ⟨ok3, fr3, le3⟩ := ok2.freeze (O := OwnA l1 σ) h1 st
          exact k _ W2 H2 ok3 (fr2.trans fr3) rfl (jok_keys fun W g H ⟨_, _, le, _⟩ => ⟨le.frz _ _ _ st.at_, DenL.le (Le.trans le3 le) _ h2.keys⟩)
      by_cases hdu : ∃ ps, d = .dcu ps
      · obtain ⟨ps, rfl⟩ := hdu
        obtain ⟨W2, ok2, fr2, le2, den⟩ := r'.shared ok' fr'
        cases den with
        | @dcu a kvs _ h1 h2 =>
          cases hi
          refine .inr (.inr (.inr (.inr ⟨a, kvs, rfl, h1.rd, fun o H2 st => ?_⟩)))
          obtain ⟨ok3, fr3, le3⟩ := ok2.freezeT (O := OwnA l1 σ) h1 st
          exact k _ W2 H2 ok3 (fr2.trans fr3) rfl (jok_keysT fun W g H ⟨_, _, le, _⟩ => ⟨le.frz _ _ _ st.at_, DenU.le (Le.trans le3 le) _ h2⟩)
      have hnd : ∀ ps, d ≠ .dct ps := fun ps e => hdc ⟨ps, e⟩
      have hnu : ∀ ps, d ≠ .dcu ps := fun ps e => hdu ⟨ps, e⟩
      have live0 : Live X.K W' H' (OwnA l1 σ) gd ds W' g1 H' := ⟨ok'.rep, ⟨_, Fr.refl⟩, Le.refl, gk⟩
      rcases stay_list ok' r' hnd hnu hi with ⟨a, rfl, hs⟩ | ⟨a, rfl, hs⟩ | ⟨z, rfl, rfl⟩
      · obtain ⟨xs, hx, _⟩ := hs W' g1 H' live0
        exact .inl ⟨a, rfl, ⟨xs, hx⟩, k _ W' H' ok' fr' gk (jok_list hs)⟩
      · obtain ⟨xs, hx, _⟩ := hs W' g1 H' live0
        exact .inr (.inl ⟨a, rfl, ⟨xs, hx⟩, k _ W' H' ok' fr' gk (jok_tup hs)⟩)
      · exact .inr (.inr (.inl ⟨z, rfl, k _ W' H' ok' fr' gk jok_str⟩))
  | ex c d l g => rw [e1] at em; cases em
  | no => rw [e1] at em; cases em
end
end Y
/-! enumerate of a tuple -/
namespace Y
variable [TabC]
open PySem L2 PySem.Spec PyProof.Rows
open AutoSeq1 (wpAny_loadPart')
def titObj (t : Addr) : Obj := { cls := .type "tuple_iterator", data := .fields #[.ref t, .int 0 0] }
def enumObj (i : Addr) : Obj := { cls := .type "enumerate", data := .fields #[.none, .bool false, .ref i, rawInt 0, .none, .none] }
theorem meets_enumT (t : Addr) (vs : Array Value) (m : Nat) (dt : Option Addr) (sl : Array (Option Value)) :
    Meets (Builtin.«enumerate.__new__» ⟨[.type "enumerate", .ref t], []⟩) (fun _ R s => s.heap.get? t = some { cls := .type "tuple", dict := dt, data := .seq vs m, slots := sl } ∧
      R (.ok (.ret (.ref (s.heap.push (titObj t)).objs.size))) { s with heap := (s.heap.push (titObj t)).push (enumObj s.heap.objs.size) }) :=
  .of_wp fun prog w A R s h => by
    obtain ⟨hp, g, d, tk, os⟩ := s
    obtain ⟨ht, h⟩ := h
    have hsu := sub_enumerate
    have hT : Heap.IsTuple (Shared.heap ⟨hp, g, d, tk, os⟩) t vs := ⟨_, ht, rfl, m, rfl⟩
    wp_walk using wpAny_loadPart' ht
    refine wpAny_stack_any fun st => wpAny_pure ?_
    split
    · rename_i c _ _ _ _ _
      cases (c == Value.type "enumerate") <;> (wp_walk using wpAny_loadPart' ht, wpAny_pyIter_tuple hT; exact ⟨_, rfl, h⟩)
    · wp_walk using wpAny_loadPart' ht, wpAny_pyIter_tuple hT
      exact ⟨_, rfl, h⟩
section
variable {prog : Program} {w : World} {A : Around} {E : Value → Shared → Prop} {s : Shared}
theorem call_enumT {t : Addr} {vs : Array Value} {Q : Value → Shared → Prop} (hT : s.heap.IsTuple t vs)
    (q : ∀ h', IsEnum h' (s.heap.objs.size + 1) s.heap.objs.size 0 .none → h'.IsTupleIter s.heap.objs.size t 0 → (∀ b o, s.heap.get? b = some o → h'.get? b = some o) → Q (.ref (s.heap.objs.size + 1)) { s with heap := h' }) :
    wpAny (model prog w) A (call (.type "enumerate") [.ref t]) Q E s := by
  obtain ⟨⟨c, dt, da, sl⟩, ht, hc, m, hd⟩ := hT
  simp only at hc hd
  subst hc hd
  refine callType_new F.called_enumerate (by decide) (F.typeCall_enumerate_1 _) (F.newCall_enumerate_1 _) (fun obj => F.args_object_init_2 obj _) F.entry_enumerate_new (meets_enumT t vs m dt sl) ⟨ht, ?_⟩
  have hz : (s.heap.push (titObj t)).objs.size = s.heap.objs.size + 1 := Heap.size_push ..
  have he : ((s.heap.push (titObj t)).push (enumObj s.heap.objs.size)).get? (s.heap.objs.size + 1) = some (enumObj s.heap.objs.size) := by
    rw [← hz]; exact Heap.get?_push_size _ rfl
  show _ ∧ _
  rw [hz]
  exact ⟨⟨_, he, rfl⟩, q _ he ⟨_, Heap.get?_push_of_some _ (Heap.get?_push_size _ rfl), rfl, rfl⟩ fun b o x => Heap.get?_push_of_some _ (Heap.get?_push_of_some _ x)⟩
end
/-- the tuple at a, each item in a new pair -/
def IteT (K : PySem.W.Frag) (a : Addr) : It :=
  ⟨fun i H => ∃ (xs : List V) (x : V), SqT K H a xs ∧ xs[i]? = some x, fun i H v H' => ∃ T x, v = .ref T ∧ H T = none ∧ H' = upd H T (.tup [.int (i : Nat), x]) ∧ ∀ ys, SqT K H a ys → ys[i]? = some x, fun i H => ∃ xs : List V, SqT K H a xs ∧ xs.length ≤ i⟩
theorem drawsEnd {prog : Program} {w : World} {A : Around} (hh : A.handled = none) (it t : Addr) (hne : t ≠ it) (items : Array Value) (n : Nat) (hn : items.size ≤ n) :
    Draws prog w A it [it, t] n (fun _ _ => False) (fun i h => i = n ∧ h.IsTupleIter it t i ∧ h.IsTuple t items) where
  live := fun _ _ st => let ⟨o, ho, _⟩ := st.2.1; ⟨o, ho⟩
  frame := fun _ _ _ st hk => ⟨st.1, st.2.1.at fun o e => hk it (by simp) o e, st.2.2.at fun o e => hk t (by simp) o e⟩
  item := fun i s Q E hi st hQ => absurd st.1 (by omega)
  done := fun s Q E st hE => wpAny_nextOf_tuple_end hh st.2.1 st.2.2 (by simp; omega) hE
theorem turn_enumT {P : Program} {w : World} {K : PySem.W.Frag} {elts : List Expr} {kk : Nat} {tpos : Pos} (a e it : Addr) :
    Turn P w K (.Tuple elts kk tpos) (IteT K a) [e, it] e (fun i h => (∃ old, IsEnum h e it ((i : Nat) : Int) old) ∧ h.IsTupleIter it a i ∧ e ≠ it ∧ e ≠ a ∧ a ≠ it) where
  mem := by simp
  obj := fun i h st b hb => by
    obtain ⟨⟨old, he⟩, ⟨o, ho, hc, hd⟩, _⟩ := st
    rcases List.mem_cons.mp hb with z | z
    · rw [z]; exact ⟨_, he, fun v q => nomatch q⟩
    · rw [List.mem_singleton.mp z]; exact ⟨o, ho, fun v q => by rw [hd] at q; cases q⟩
  keep := fun i h h' st k => let ⟨⟨old, he⟩, hi, hne⟩ := st; ⟨⟨old, k e (by simp) _ he⟩, hi.at fun o q => k it (by simp) o q, hne⟩
  item := by
    intro X hP hw hK hc i pins s σ H E I hf st hg
    subst hP hw hK
    obtain ⟨⟨old, he⟩, hit, hne, hea, hai⟩ := st
    obtain ⟨xs, x, hq, hx⟩ := hg
    obtain ⟨its, rv, p, hz⟩ := I.tuple hq
    obtain ⟨u, hu, ru⟩ := rv.get hx
    have hel : e < s.heap.objs.size := Heap.lt_size he
    have hil : it < s.heap.objs.size := by obtain ⟨_, q, _⟩ := hit; exact Heap.lt_size q
    have hlt : i < its.toArray.size := by
      have := (List.getElem?_eq_some_iff.mp hu).1
      simpa using this
    refine wpAny_pyNext_enum_itemD (Draws.tuple (A := X.A.in1) (I.ok.hd hc) it a hai its.toArray) he ⟨hit, p⟩ hlt hne (by simp [hne, hea]) fun x2 h' tk hP ho hst hT hsz hk => ?_
    have e2 : x2 = u := by
      rw [show its.toArray[i]? = some u from by simpa using hu] at hP
      exact (Option.some.inj hP).symm
    subst e2
    refine ⟨_, rfl, wpAny_letOwnedTupleGo_enum (s := { s with heap := h', toks := tk + 1 }) ho fun h'' he' sb => ?_⟩
    have hT2 : h''.get? s.heap.objs.size = some { cls := .type "tuple", data := .seq #[.int i tk, x2] } := (sb.2 _ (Nat.ne_of_gt hel)).trans hT
    have nw : ObjOk X.prog X.w (upd H s.heap.objs.size (.tup [.int (i : Nat), x])) h'' s.heap.objs.size (.tup [.int (i : Nat), x]) :=
      ⟨by show 2 ≤ sizeLine; decide, [.int i tk, x2], .cons ⟨_, rfl⟩ (.cons ru .nil), ⟨_, hT2, rfl, _, rfl⟩⟩
    have J : Inv X pins σ (upd H s.heap.objs.size (.tup [.int (i : Nat), x])) { s with heap := h'', toks := tk + 1 } :=
      I.turnedNew (ch := [e, it]) (fun b ob hb q => (sb.2 b (fun z => hb (by simp [z]))).trans (hk b ob (fun z => hb (by simp [z])) (fun z => hb (by simp [z])) q)) hf (Nat.le_refl _) nw
    refine ⟨.ref s.heap.objs.size, _, J, rfl, ⟨_, x, rfl, I.hok.fresh (Nat.le_refl _), rfl, fun ys hy => ?_⟩, ⟨⟨x2, ?_⟩, hst.1.at fun o q => (sb.2 it (Ne.symm hne)).trans q, hne, hea, hai⟩, fun b hb => ?_⟩
    · rw [I.tuple_inj hy hq]; exact hx
    · have e1 : ((i + 1 : Nat) : Int) = (i : Int) + 1 := by omega
      rw [e1]; exact he'
    · have hb2 : b < s.heap.objs.size := by
        rcases List.mem_cons.mp hb with z | z
        · rw [z]; exact hel
        · rw [List.mem_singleton.mp z]; exact hil
      rw [upd_ne (Nat.ne_of_lt hb2)]
      exact (hf b hb).1
  done := by
    intro X hP hw hK hc i pins s σ H E I hf st hg
    subst hP hw hK
    obtain ⟨⟨old, he⟩, hit, hne, hea, hai⟩ := st
    obtain ⟨xs, hq, hx⟩ := hg
    obtain ⟨its, rv, p, hz⟩ := I.tuple hq
    obtain ⟨f0, f1, f2, f3, f4, f5⟩ := hf it (by simp)
    have hl := rv.length
    have hsz : its.toArray.size ≤ i := by simp; omega
    have hea' : e ∉ [it, a] := by simp [hne, hea]
    exact wpAny_pyNext_enum_endD (drawsEnd (A := X.A.in1) (I.ok.hd hc) it a hai its.toArray i hsz) he ⟨rfl, hit, p⟩ fun h' eb => ⟨rfl, I.turned (t' := s.toks) (fun b o hb q => eb b o hb q) f0 f1 f3 f4 f5⟩
  self := fun A i s Q E st h => let ⟨⟨_, he⟩, _⟩ := st; wpAny_pyIter_enum he h
theorem pi_enumT {X : Cx} {e : Expr} {ta : TA} {p pos tpos : Pos} {elts : List Expr} {kk : Nat} (hg : Gl X "enumerate") (hm : X.mg "enumerate" = none) (ha : PA X [e] ta) (hs : starEach [e] X.env = [(false, eval e X.env)] := by rfl) :
    PI X (.Tuple elts kk tpos) (.Call (.Name "enumerate" p) [e] [] pos) (fun σ H R => ta σ H fun vs H1 => ∃ a xs, vs = [.ref a] ∧ SqT X.K H1 a xs ∧ R (IteT X.K a) H1) := by
  refine ⟨fun pins s σ H R I h => ?_⟩
  refine Call_ (ld_blt I hg hm boot_enumerate (PyProof.Rows.callWith_type1 (thn (ha.run pos pins s σ H _ I h) fun us s1 ⟨vs, H1, I1, r1, q1⟩ => ?_) hs rfl))
  obtain ⟨a, xs, ex, hq, q⟩ := q1
  subst ex
  cases r1 with
  | cons r rr =>
    cases rr
    cases r
    obtain ⟨its, rv, p', hz⟩ := I1.tuple hq
    have hal : a < s1.heap.objs.size := by obtain ⟨_, y, _⟩ := (show s1.heap.IsTuple a its.toArray from p'); exact Heap.lt_size y
    refine call_enumT (show s1.heap.IsTuple a its.toArray from p') fun h' he hit hk => wpAny_pyIter_enum he ?_
    have I2 : Inv X pins σ H1 { s1 with heap := h' } := I1.kept (t' := s1.toks) hk
    refine ⟨s1.heap.objs.size + 1, [s1.heap.objs.size + 1, s1.heap.objs.size], _, _, H1, rfl, I2, turn_enumT a (s1.heap.objs.size + 1) s1.heap.objs.size, ⟨⟨.none, he⟩, hit, Nat.succ_ne_self _, Nat.ne_of_gt (Nat.lt_succ_of_lt hal), Nat.ne_of_lt hal⟩, fun b hb => ?_, q⟩
    have e' : b = s1.heap.objs.size + 1 ∨ b = s1.heap.objs.size := by simpa using hb
    have hle : s1.heap.objs.size ≤ b := by
      rcases e' with z | z
      · rw [z]; exact Nat.le_add_right _ _
      · rw [z]; exact Nat.le_refl _
    exact I1.fpOk hle (I1.hok.fresh hle)
section
variable {K : PySem.W.Frag} {W : Wd} {H : Hp}
theorem jok_enumT {a : Addr} {ds : List D} {P : Wd → Gs → Hp → Prop} (h : ∀ W g H, P W g H → ∃ xs, SqT K H a xs ∧ DenL K W H xs ds) : JOk K (IteT K a) (enumD ds) P where
  go := fun i W g H p hi => by
    obtain ⟨xs, h1, h2⟩ := h W g H p
    have hi' : i < xs.length := by rw [h2.length]; simpa [enumD] using hi
    exact ⟨xs, xs[i], h1, by simp [hi']⟩
  stop := fun i W g H p hi => by
    obtain ⟨xs, h1, h2⟩ := h W g H p
    exact ⟨xs, h1, by rw [h2.length]; simpa [enumD] using hi⟩
  yld := fun i x W g H H' p hi y => by
    obtain ⟨xs, h1, h2⟩ := h W g H p
    obtain ⟨T, x0, rfl, hT, rfl, y⟩ := y
    obtain ⟨d, e, den⟩ := h2.getV (y xs h1)
    exact ⟨.tup [.int (i : Nat), d], by simp [enumD, e], .tup hT (.cons (.int _) (.cons den .nil))⟩
end
end Y
namespace Y
variable [TabC]
open PySem L2

section
variable {X : Cx} {K : PySem.W.Frag} {W W1 : Wd} {H H1 : Hp} {σ σ1 : L2.St} {l l1 : Lc} {g g1 : Gs} {e a b tg : Expr} {m ma mb : Sm} {pos p0 tpos : Pos}
/-! ### range, enumerate, zip, reversed -/
def rgOk (i j : Int) : Bool := decide (-(2 ^ 62) ≤ i) && decide (i < 2 ^ 62) && decide (-(2 ^ 62) ≤ j) && decide (j < 2 ^ 62)
def rgD (i j : Int) : List D := (List.range (j - i).toNat).map fun k => .int (i + (k : Nat))
def irBind (r : ER) (k : D → Bool → Lc → Gs → IR) : IR := match r with
  | .ok d f l g => k d f l g
  | _ => .no
theorem irBind_ok {r : ER} {k : D → Bool → Lc → Gs → IR} {ds : List D} {gd : Gd} {l1 : Lc} {g1 : Gs} (h : irBind r k = .ok ds gd l1 g1) : ∃ d f l' g', r = .ok d f l' g' ∧ k d f l' g' = .ok ds gd l1 g1 := by
  cases r with
  | ok d f l g => exact ⟨d, f, l, g, rfl, h⟩
  | ex _ _ _ _ => cases h
  | no => cases h
def rg1 : D → Lc → Gs → IR
  | .int j, l, g => if rgOk 0 j = true then .ok (rgD 0 j) none l g else .no
  | _, _, _ => .no
def rg2 : D → D → Lc → Gs → IR
  | .int i, .int j, l, g => if rgOk i j = true then .ok (rgD i j) none l g else .no
  | _, _, _, _ => .no
def iRange1 (m : Sm) : Im := fun l g => irBind (m l g) fun x _ l g => rg1 x l g
def iRange2 (a b : Sm) : Im := fun l g => irBind (a l g) fun x _ l g => irBind (b l g) fun y _ l g => rg2 x y l g
theorem SE.at {X : Cx} {e : Expr} {m : Sm} {d : D} {f : Bool} {l1 : Lc} {g1 : Gs} {R : VK} (h : SE X e m) (ok : Ok X.K W l g σ H) (e1 : m l g = .ok d f l1 g1)
    (go : ∀ v W1 H1, Ok X.K W1 l1 g1 σ H1 → Fr W H (OwnA l σ) W1 H1 (OwnA l1 σ) → Res X.K W1 H (OwnA l σ) (OwnA l1 σ) H1 v d f → R v H1) : tW X e σ H R := by
  refine h σ H W l g R ok ?_
  rw [e1]
  exact fun v W' H' ok' f' r' => go v W' H' ok' f' r'
theorem SE.atV {X : Cx} {e : Expr} {m : Sm} {d : D} {f : Bool} {l1 : Lc} {g1 : Gs} {R : VK} (h : SE X e m) (ok : Ok X.K W l g σ H) (e1 : m l g = .ok d f l1 g1)
    (go : ∀ v W1 H1, Ok X.K W1 l1 g1 σ H1 → Fr W H (OwnA l σ) W1 H1 (OwnA l1 σ) → Den X.K W1 H1 v d → R v H1) : tW X e σ H R :=
  h.at ok e1 fun v W1 H1 ok1 fr1 r => by
    obtain ⟨W2, ok2, fr2, le2, den⟩ := r.shared ok1 fr1
    exact go v W2 H1 ok2 fr2 den
theorem si_range1 (bn : Bn X "range") (hs : Star1 X a) (h : SE X a m) : SI X tg (.Call (.Name "range" p0) [a] [] pos) (iRange1 m) := by
  intro σ H W l g ds gd l1 g1 R ok em k
  obtain ⟨d, f, l2, g2, e1, e2⟩ := irBind_ok em
  refine tI.of (pi_range1 bn.gl bn.mg (pa_1 pe_w hs) (hs [])) ?_
  refine h.atV ok e1 fun v W1 H1 ok1 fr1 den => ?_
  cases d with
  | int j =>
    cases den
    simp only [rg1] at e2
    split at e2
    · rename_i hr
      cases e2
      simp only [rgOk, Bool.and_eq_true, decide_eq_true_eq] at hr
      refine ⟨j, rfl, by omega, by omega, k _ W1 H1 ok1 fr1 rfl ?_⟩
      have := jok_range (K := X.K) (lo := 0) (n := j.toNat) (P := Live X.K W1 H1 (OwnA l1 σ) none (rgD 0 j))
      simpa [rgD] using this
    · cases e2
  | _ => cases e2
theorem si_range2 (bn : Bn X "range") (hs : Star1 X a) (hs' : Star1 X b) (ha : SE X a ma) (hb : SE X b mb) : SI X tg (.Call (.Name "range" p0) [a, b] [] pos) (iRange2 ma mb) := by
  intro σ H W l g ds gd l1 g1 R ok em k
  obtain ⟨d, f, l2, g2, e1, em2⟩ := irBind_ok em
  obtain ⟨d', f', l3, g3, e2, em3⟩ := irBind_ok em2
  refine tI.of (pi_range2 bn.gl bn.mg (pa_cons pe_w (pa_cons pe_w pa_nil (hs' [])) (hs [b])) (by rw [hs, hs']; rfl) (by rw [hs']; rfl)) ?_
  refine ha.atV ok e1 fun v W1 H1 ok1 fr1 den => hb.atV ok1 e2 fun u W2 H2 ok2 fr2 den2 => ?_
  cases d with
  | int i =>
    cases d' with
    | int j =>
      cases den; cases den2
      simp only [rg2] at em3
      split at em3
      · rename_i hr
        cases em3
        simp only [rgOk, Bool.and_eq_true, decide_eq_true_eq] at hr
        exact ⟨i, j, rfl, ⟨by omega, by omega, by omega, by omega⟩, k _ W2 H2 ok2 (fr1.trans fr2) rfl jok_range⟩
      · cases em3
    | _ => cases em3
  | _ => cases em3
def tupOf : D → Option (List D)
  | .tup ds => some ds
  | .ftup ds => some ds
  | _ => none
theorem Den.tupOf {v : V} {d : D} {ds : List D} (h : Den K W H v d) (e : tupOf d = some ds) : ∃ a xs, v = .ref a ∧ SqT K H a xs ∧ DenL K W H xs ds := by
  cases d with
  | tup _ => cases e; exact (Con.den h).tup
  | ftup _ => cases e; exact (Con.den h).ftup
  | _ => cases e
def en1 (x : D) (l : Lc) (g : Gs) : IR := match x with
  | .lst ds => .ok (enumD ds) none l g
  | x => match tupOf x with
    | some ds => .ok (enumD ds) none l g
    | none => .no
def iEnum1 (m : Sm) : Im := fun l g => irBind (m l g) fun x _ l g => en1 x l g
theorem live_of {P : Prop} {W2 : Wd} {g2 : Gs} {H2 : Hp} {ds : List D} (L : Live K W1 H1 (OwnA l1 σ) none ds W2 g2 H2) (h : Le W1 H1 W2 H2 → P) : P := h L.2.2.1
theorem si_enum (bn : Bn X "enumerate") (hs : Star1 X a) {elts : List Expr} {kk : Nat} (h : SE X a m) : SI X (.Tuple elts kk tpos) (.Call (.Name "enumerate" p0) [a] [] pos) (iEnum1 m) := by
  intro σ H W l g ds gd l1 g1 R ok em k
  obtain ⟨d, f, l2, g2, e1, e2⟩ := irBind_ok em
  unfold en1 at e2
  split at e2
  · cases e2
    refine tI.of (pi_enum bn.gl bn.mg (pa_1 pe_w hs) (hs [])) ?_
    refine h.atV ok e1 fun v W1 H1 ok1 fr1 den => ?_
    cases den with
    | lst h1 h2 => exact ⟨_, _, rfl, h1.sq, k _ W1 H1 ok1 fr1 rfl (jok_enum fun W g H L => ⟨_, (SqF.le L.2.2.1 h1).sq, DenL.le L.2.2.1 _ h2⟩)⟩
  · split at e2
    · rename_i es et
      cases e2
      refine tI.of (pi_enumT bn.gl bn.mg (pa_1 pe_w hs) (hs [])) ?_
      refine h.atV ok e1 fun v W1 H1 ok1 fr1 den => ?_
      obtain ⟨a, xs, rfl, h1, h2⟩ := den.tupOf et
      exact ⟨_, _, rfl, h1, k _ W1 H1 ok1 fr1 rfl (jok_enumT fun W g H L => ⟨_, SqT.le L.2.2.1 h1, DenL.le L.2.2.1 _ h2⟩)⟩
    · cases e2
def zp2 (x y : D) (l : Lc) (g : Gs) : IR := match x, y with
  | .lst ds, .lst es => .ok (zipD ds es) none l g
  | .ref n, .lst es => (match boxD g[n]? with
    | some (.lst ds) => .ok (zipD ds es) (some (n, ds)) l g
    | _ => .no)
  | x, y => match tupOf x, tupOf y with
    | some ds, some es => .ok (zipD ds es) none l g
    | _, _ => .no
def iZip2 (a b : Sm) : Im := fun l g => irBind (a l g) fun x _ l g => irBind (b l g) fun y _ l g => zp2 x y l g
theorem si_zip (bn : Bn X "zip") (hs : Star1 X a) (hs' : Star1 X b) {elts : List Expr} {kk : Nat} (ha : SE X a ma) (hb : SE X b mb) : SI X (.Tuple elts kk tpos) (.Call (.Name "zip" p0) [a, b] [] pos) (iZip2 ma mb) := by
  intro σ H W l g ds gd l1 g1 R ok em k
  obtain ⟨d, f, l2, g2, e1, em2⟩ := irBind_ok em
  obtain ⟨d', f', l3, g3, e2, em3⟩ := irBind_ok em2
  refine tI.of (RZ.pi_zipA bn.gl bn.mg (pa_cons pe_w (pa_cons pe_w pa_nil (hs' [])) (hs [b])) (hs [b]) (by rw [hs']; rfl)) ?_
  refine ha.atV ok e1 fun v W1 H1 ok1 fr1 den => hb.atV ok1 e2 fun u W2 H2 ok2 fr2 den2 => ?_
  have den := den.le (ok1.le fr2)
  unfold zp2 at em3
  split at em3
  · cases em3
    cases den with
    | lst h1 h2 => cases den2 with
      | lst h3 h4 => exact ⟨_, _, _, _, rfl, .inl ⟨h1.sq, h3.sq, k _ W2 H2 ok2 (fr1.trans fr2) rfl (jok_zip fun W g H L => ⟨_, _, (SqF.le L.2.2.1 h1).sq, (SqF.le L.2.2.1 h3).sq, DenL.le L.2.2.1 _ h2, DenL.le L.2.2.1 _ h4⟩)⟩⟩
  · cases den with
    | @ref a _ hm => cases den2 with
      | lst h3 h4 =>
        split at em3
        · rename_i ds' hb
          cases em3
          obtain ⟨xs, q1, q2⟩ := live_ref (es := ds') (ds := []) hm (W := W2) (g := g1) (H := H2) (l1 := l1) (σ := σ) ⟨ok2.rep, ⟨_, Fr.refl⟩, Le.refl, by simp [gdOk, hb]⟩
          exact ⟨_, _, _, _, rfl, .inl ⟨q1, h3.sq, k _ W2 H2 ok2 (fr1.trans fr2) (by simp [gdOk, hb]) (jok_zip fun W g H L => by
            obtain ⟨xs', r1, r2⟩ := live_ref hm L
            exact ⟨_, _, r1, (SqF.le L.2.2.1 h3).sq, r2, DenL.le L.2.2.1 _ h4⟩)⟩⟩
        · cases em3
  · split at em3
    · rename_i as bs ea eb
      cases em3
      obtain ⟨a, xs, rfl, h1, h2⟩ := den.tupOf ea
      obtain ⟨b, ys, rfl, h3, h4⟩ := den2.tupOf eb
      exact ⟨_, _, _, _, rfl, .inr ⟨h1, h3, k _ W2 H2 ok2 (fr1.trans fr2) rfl (jok_zipT fun W g H L => ⟨_, _, SqT.le L.2.2.1 h1, SqT.le L.2.2.1 h3, DenL.le L.2.2.1 _ h2, DenL.le L.2.2.1 _ h4⟩)⟩⟩
    · cases em3
def rv1 : D → Lc → Gs → IR
  | .lst ds, l, g => .ok ds.reverse none l g
  | .tup ds, l, g => .ok ds.reverse none l g
  | _, _, _ => .no
def iRev1 (m : Sm) : Im := fun l g => irBind (m l g) fun x _ l g => rv1 x l g
theorem si_rev (bn : Bn X "reversed") (hs : Star1 X a) (h : SE X a m) : SI X tg (.Call (.Name "reversed" p0) [a] [] pos) (iRev1 m) := by
  intro σ H W l g ds gd l1 g1 R ok em k
  obtain ⟨d, f, l2, g2, e1, e2⟩ := irBind_ok em
  refine tI.of (RT.pi_revA bn.gl bn.mg pe_w (hs [])) ?_
  refine h.atV ok e1 fun v W1 H1 ok1 fr1 den => ?_
  cases d with
  | lst es =>
    cases e2
    cases den with
    | lst h1 h2 => exact ⟨_, _, rfl, .inl ⟨h1.sq, k _ W1 H1 ok1 fr1 rfl (jok_rev h2.length fun W g H L => ⟨_, (SqF.le L.2.2.1 h1).sq, DenL.le L.2.2.1 _ h2⟩)⟩⟩
  | tup es =>
    cases e2
    cases den with
    | tup h1 h2 => exact ⟨_, _, rfl, .inr ⟨SqT.of h1, k _ W1 H1 ok1 fr1 rfl (jok_revT h2.length fun W g H L => ⟨_, SqT.le L.2.2.1 (SqT.of h1), DenL.le L.2.2.1 _ h2⟩)⟩⟩
  | _ => cases e2

/-! ### for -/
def forL (gd : Gd) (ds0 : List D) (t : Tg) (b : Sg) : List D → Sg
  | [] => fun l g => if gdOk gd ds0 g = true then .nx l g else .no
  | d :: ds => fun l g => if gdOk gd ds0 g = true then (match t.put d l g with
    | some l => turn (b l g) (forL gd ds0 t b ds)
    | none => .no) else .no
def cFor (it : Im) (t : Tg) (b : Sg) : Sg := fun l g => match it l g with
  | .ok ds gd l g => forL gd ds t b ds l g
  | .no => .no
theorem NewV.alloc {v : V} {H' : Hp} {d : D} (ok : Ok K W l g σ H) (n : NewV K W H v H' d false) : Ok K W l g σ H' ∧ Fr W H (OwnA l σ) W H' (OwnA l σ) ∧ Den K W H' v d := by
  generalize hf : false = f at n
  induction n with
  | same h => exact ⟨ok, Fr.refl, h⟩
  | tup hp h => exact ⟨ok.alloc hp, Fr.alloc hp, .tup upd_same (DenL.le (Le.alloc hp) _ h)⟩
  | ftup hp h1 h2 h => exact ⟨ok.alloc hp, Fr.alloc hp, .ftup upd_same h1 h2 (DenL.le (Le.alloc hp) _ h)⟩
  | mid hp n ih =>
    obtain ⟨a, b, c⟩ := ih (ok.alloc hp) hf
    exact ⟨a, (Fr.alloc hp).trans b, c⟩
  | _ => cases hf
theorem ss_for {it : Expr} {B : List Stmt} {mi : Im} {t : Tg} {mb : Sg} (hp : PassesOwn (model X.prog X.w) X.A X.env X.xe) (hc : X.calm = true) (hi : SI X tg it mi) (ht : SG X tg t) (hb : SSs X B mb)
    (hs : ∀ x, foldedSetIterable it X.env x = pure x) : SS X (.For tg it B [] pos) (cFor mi t mb) := by
  intro σ H W l g D ok p
  refine tS.of (ps_for hp hc (pi_i (tg := tg)) pg_g pss_s hs) ?_
  unfold cFor at p
  cases em : mi l g with
  | no => rw [em] at p; exact False.elim p
  | ok ds gd l1 g1 =>
    rw [em] at p
    have p : SPost X.K W H σ l (forL gd ds t mb ds l1 g1) D := p
    refine hi σ H W l g ds gd l1 g1 _ ok em fun J W1 H1 ok1 fr1 gk JO => ?_
    have p1 : SPost X.K W1 H1 σ l1 (forL gd ds t mb ds l1 g1) D := p.shift fr1
    refine ⟨fun i m σ' H' => m = ds.length - i ∧ i ≤ ds.length ∧ ∃ W2 l2 g2, Ok X.K W2 l2 g2 σ' H' ∧ Fr W1 H1 (OwnA l1 σ) W2 H' (OwnA l2 σ') ∧ SPost X.K W2 H' σ' l2 (forL gd ds t mb (ds.drop i) l2 g2) D,
      ⟨ds.length, by simp, Nat.zero_le _, W1, l1, g1, ok1, Fr.refl, p1⟩, ?_⟩
    rintro i m σ' H' ⟨rfl, hil, W2, l2, g2, ok2, fr2, p2⟩
    have L : ∀ {q : gdOk gd ds g2 = true}, Live X.K W1 H1 (OwnA l1 σ) gd ds W2 g2 H' := fun {q} => ⟨ok2.rep, ⟨_, fr2⟩, ok1.le fr2, q⟩
    by_cases hlt : i < ds.length
    · right
      rw [List.drop_eq_getElem_cons hlt] at p2
      simp only [forL] at p2
      split at p2
      · rename_i gk2
        refine ⟨JO.go i W2 g2 H' (L (q := gk2)) hlt, fun σ3 H3 => ∃ W3 l3 g3, Ok X.K W3 l3 g3 σ3 H3 ∧ Fr W1 H1 (OwnA l1 σ) W3 H3 (OwnA l3 σ3) ∧ SPost X.K W3 H3 σ3 l3 (forL gd ds t mb (ds.drop (i + 1)) l3 g3) D,
          fun σ3 H3 ⟨W3, l3, g3, q⟩ => ⟨ds.length - (i + 1), by omega, rfl, hlt, W3, l3, g3, q⟩, fun x H4 y => ?_⟩
        obtain ⟨d, ed, nv⟩ := JO.yld i x W2 g2 H' H4 (L (q := gk2)) hlt y
        have ed' : d = ds[i] := by
          rw [List.getElem?_eq_getElem hlt] at ed
          exact (Option.some.inj ed).symm
        subst ed'
        obtain ⟨ok4, fr4, den4⟩ := nv.alloc ok2
        cases et : t.put ds[i] l2 g2 with
        | none => rw [et] at p2; exact False.elim p2
        | some l5 =>
          rw [et] at p2
          have p4 : SPost X.K W2 H4 σ' l2 (turn (mb l5 g2) (forL gd ds t mb (ds.drop (i + 1)))) D := p2.shift fr4
          refine ht σ' H4 W2 l2 g2 x _ l5 _ ok4 den4 et fun σ5 ok5 fr5 _ => ?_
          refine hb σ5 H4 W2 l5 g2 _ ok5 (turn_post (p4.shift fr5) fun l6 g6 σ6 W6 H6 p6 ok6 fr6 => ?_)
          exact ⟨W6, l6, g6, ok6, ((fr2.trans fr4).trans fr5).trans fr6, p6⟩
      · exact False.elim p2
    · have ei : i = ds.length := by omega
      subst ei
      left
      rw [List.drop_length] at p2
      simp only [forL] at p2
      split at p2
      · rename_i gk2
        exact ⟨JO.stop _ W2 g2 H' (L (q := gk2)) (Nat.le_refl _), p2 σ' W2 H' ok2 Fr.refl⟩
      · exact False.elim p2
end
end Y
namespace Y
variable [TabC]
open PySem L2

/-! ### comprehensions -/
def wipeL (l : Lc) : List Nat → Lc
  | [] => l
  | v :: vs => (wipeL l vs).set v none
/-- l2, with l1's own slots back -/
def restL (l1 l2 : Lc) : List Nat → Lc
  | [] => l2
  | v :: vs => (restL l1 l2 vs).set v (l1[v]?.getD none)
theorem wipeL_len (l : Lc) : ∀ vs, (wipeL l vs).length = l.length
  | [] => rfl
  | v :: vs => by unfold wipeL; rw [List.length_set, wipeL_len l vs]
theorem wipeL_out {l : Lc} {i : Nat} : ∀ {vs : List Nat}, i ∉ vs → (wipeL l vs)[i]? = l[i]?
  | [], _ => rfl
  | v :: vs, h => by
    simp only [List.mem_cons, not_or] at h
    unfold wipeL
    rw [List.getElem?_set_ne (Ne.symm h.1), wipeL_out h.2]
theorem wipeL_some {l : Lc} {i : Nat} {x : SV} : ∀ {vs : List Nat}, (wipeL l vs)[i]? = some (some x) → l[i]? = some (some x) ∧ i ∉ vs
  | [], h => ⟨h, by simp⟩
  | v :: vs, h => by
    unfold wipeL at h
    by_cases hi : v = i
    · subst hi
      by_cases hv : v < (wipeL l vs).length
      · rw [List.getElem?_set_self hv] at h; cases h
      · rw [List.getElem?_eq_none (by simpa using hv)] at h; cases h
    · rw [List.getElem?_set_ne hi] at h
      obtain ⟨h1, h2⟩ := wipeL_some h
      exact ⟨h1, by simp only [List.mem_cons, not_or]; exact ⟨fun e => hi e.symm, h2⟩⟩
theorem restL_len (l1 l2 : Lc) : ∀ vs, (restL l1 l2 vs).length = l2.length
  | [] => rfl
  | v :: vs => by unfold restL; rw [List.length_set, restL_len l1 l2 vs]
theorem restL_out {l1 l2 : Lc} {i : Nat} : ∀ {vs : List Nat}, i ∉ vs → (restL l1 l2 vs)[i]? = l2[i]?
  | [], _ => rfl
  | v :: vs, h => by
    simp only [List.mem_cons, not_or] at h
    unfold restL
    rw [List.getElem?_set_ne (Ne.symm h.1), restL_out h.2]
theorem restL_in {l1 l2 : Lc} {i : Nat} {x : SV} : ∀ {vs : List Nat}, i ∈ vs → (restL l1 l2 vs)[i]? = some (some x) → l1[i]? = some (some x)
  | [], h, _ => by simp at h
  | v :: vs, h, e => by
    unfold restL at e
    by_cases hi : v = i
    · subst hi
      by_cases hv : v < (restL l1 l2 vs).length
      · rw [List.getElem?_set_self hv] at e
        cases q : l1[v]? with
        | none => rw [q] at e; cases e
        | some y =>
          rw [q] at e
          simp only [Option.getD_some] at e
          rw [Option.some.inj e]
      · rw [List.getElem?_eq_none (by simpa using hv)] at e; cases e
    · rw [List.getElem?_set_ne hi] at e
      rcases List.mem_cons.mp h with h | h
      · exact absurd h.symm hi
      · exact restL_in h e
theorem wipe_at {σ : L2.St} {i : Nat} : ∀ {vs : List Nat}, i ∈ vs → i < σ.length → (wipe σ vs)[i]? = some none
  | [], h, _ => by simp at h
  | v :: vs, h, hl => by
    unfold wipe
    by_cases hi : v = i
    · subst hi
      rw [List.getElem?_set_self (by rw [wipe_length]; exact hl)]
    · rw [List.getElem?_set_ne hi]
      rcases List.mem_cons.mp h with h | h
      · exact absurd h.symm hi
      · exact wipe_at h hl
theorem wipe_only {σ σ' : L2.St} {is vs : List Nat} (h : Only is (wipe σ vs) σ') (hs : ∀ i ∈ is, i ∈ vs) : wipe σ' vs = wipe σ vs := by
  have hl : σ'.length = σ.length := by rw [h.len, wipe_length]
  refine List.ext_getElem? fun i => ?_
  by_cases hi : i ∈ vs
  · by_cases hlt : i < σ.length
    · rw [wipe_at hi hlt, wipe_at hi (by omega)]
    · rw [List.getElem?_eq_none (by rw [wipe_length]; omega), List.getElem?_eq_none (by rw [wipe_length]; omega)]
  · rw [wipe_out hi, wipe_out hi, h.out i fun z => hi (hs i z), wipe_out hi]

def compL (gd : Gd) (ds0 : List D) (t : Tg) (own : List Nat) (cond : Option Sm) (elt : Sm) : List D → List D → Sm
  | [], acc => fun l g => if gdOk gd ds0 g = true then .ok (.lst acc) true l g else .no
  | d :: ds, acc => fun l g => if gdOk gd ds0 g = true then (match t.put d l g with
    | some l => (match cond with
      | none => (elt l g).bind fun y _ l g => if acc.length < sizeLine then compL gd ds0 t own cond elt ds (acc ++ [y]) (wipeL l own) g else .no
      | some c => (c l g).bind fun x _ l g => onB x ((elt l g).bind fun y _ l g => if acc.length < sizeLine then compL gd ds0 t own cond elt ds (acc ++ [y]) (wipeL l own) g else .no) (compL gd ds0 t own cond elt ds acc (wipeL l own) g) .no)
    | none => .no) else .no
def cLc (it : Im) (t : Tg) (own : List Nat) (cond : Option Sm) (elt : Sm) : Sm := fun l g => match it l g with
  | .ok ds gd l1 g1 => (compL gd ds t own cond elt ds [] (wipeL l1 own) g1).bind fun d f l2 g2 => .ok d f (restL l1 l2 own) g2
  | .no => .no

section
variable {X : Cx} {K : PySem.W.Frag} {W W1 W2 : Wd} {H H1 H2 : Hp} {σ σ1 : L2.St} {l l1 l2 : Lc} {g g1 g2 : Gs} {vs : List Nat}
theorem OwnA.wiped {a : Addr} (h : OwnA (wipeL l vs) (wipe σ vs) a) : OwnA l σ a := by
  obtain ⟨i, d, h1, h2⟩ := h
  exact ⟨i, d, (wipeL_some h1).1, (wipe_some h2).1⟩
theorem Ok.wiped (ok : Ok K W l g σ H) : Ok K W (wipeL l vs) g (wipe σ vs) H := by
  refine ⟨ok.rep, ⟨by rw [wipeL_len, wipe_length]; exact ok.loc.len, fun i d h => ?_, fun i d h => ?_, fun i j d e a h1 h2 h3 h4 => ?_⟩⟩
  · obtain ⟨h, hn⟩ := wipeL_some h
    obtain ⟨v, e, den⟩ := ok.loc.val i d h
    exact ⟨v, by rw [wipe_out hn]; exact e, den⟩
  · obtain ⟨h, hn⟩ := wipeL_some h
    obtain ⟨v, e, r⟩ := ok.loc.own i d h
    exact ⟨v, by rw [wipe_out hn]; exact e, r⟩
  · exact ok.loc.dist i j d e a (wipeL_some h1).1 (wipeL_some h2).1 (wipe_some h3).1 (wipe_some h4).1
/-- wiping again behind a turn (the slots not wiped are as before) -/
theorem Ok.rewiped {σb : L2.St} (ok : Ok K W l g σb H) (e : wipe σb vs = wipe σ vs) : Ok K W (wipeL l vs) g (wipe σ vs) H ∧ ∀ a, OwnA (wipeL l vs) (wipe σ vs) a → OwnA l σb a := by
  have q := ok.wiped (vs := vs)
  rw [e] at q
  exact ⟨q, fun a h => by rw [← e] at h; exact h.wiped⟩
/-- the end of a block: the def's slots again -/
theorem Ok.back (ok1 : Ok K W1 l1 g1 σ H1) (ok2 : Ok K W2 l2 g2 (wipe σ vs) H2) (fr : Fr W1 H1 (OwnA (wipeL l1 vs) (wipe σ vs)) W2 H2 (OwnA l2 (wipe σ vs))) :
    Ok K W2 (restL l1 l2 vs) g2 σ H2 ∧ Fr W1 H1 (OwnA l1 σ) W2 H2 (OwnA (restL l1 l2 vs) σ) := by
  have L : Le W1 H1 W2 H2 := fr.le ok1.rep fun a ha => ⟨ok1.loc.ownMut ha.wiped, (ok1.loc.ownNot ha.wiped).2⟩
  -- what is hidden is not written
  have hid : ∀ {i : Nat} {d : D} {a : Addr}, i ∈ vs → l1[i]? = some (some (.own d)) → σ[i]? = some (some (.ref a)) → ¬ OwnA (wipeL l1 vs) (wipe σ vs) a := fun {i d a} hi h1 h2 ⟨j, e, h3, h4⟩ => by
    obtain ⟨h3, hj⟩ := wipeL_some h3
    have := ok1.loc.dist i j d e a h1 h3 h2 (wipe_some h4).1
    exact hj (this ▸ hi)
  have own : ∀ {i : Nat} {d : D}, (restL l1 l2 vs)[i]? = some (some (.own d)) → (i ∈ vs ∧ l1[i]? = some (some (.own d))) ∨ (i ∉ vs ∧ l2[i]? = some (some (.own d))) := fun {i d} h => by
    by_cases hi : i ∈ vs
    · exact .inl ⟨hi, restL_in hi h⟩
    · rw [restL_out hi] at h; exact .inr ⟨hi, h⟩
  have live : ∀ {a : Addr}, OwnA l1 σ a → H1 a ≠ none := fun {a} h => by
    obtain ⟨o, e, _⟩ := ok1.loc.ownMut h
    rw [e]; simp
  refine ⟨⟨ok2.rep, ⟨by rw [restL_len, ok2.loc.len, wipe_length], fun i d h => ?_, fun i d h => ?_, fun i j d e a h1 h2 h3 h4 => ?_⟩⟩, ⟨?_, fr.sub, fun a h => ?_, fun a o h nt h1 h2 h3 => fr.keep a o h nt h1 (fun z => h2 z.wiped) h3, fr.dom, fun a h => ?_, fun a o h nt h1 h2 => fr.keepF a o h nt h1 fun z => h2 z.wiped⟩⟩
  · by_cases hi : i ∈ vs
    · obtain ⟨v, e, den⟩ := ok1.loc.val i d (restL_in hi h)
      exact ⟨v, e, den.le L⟩
    · rw [restL_out hi] at h
      obtain ⟨v, e, den⟩ := ok2.loc.val i d h
      rw [wipe_out hi] at e
      exact ⟨v, e, den⟩
  · rcases own h with ⟨hi, h⟩ | ⟨hi, h⟩
    · obtain ⟨a, e, ob, n1, n2⟩ := ok1.loc.own i d h
      have nh := hid hi h e
      obtain ⟨o, eo, _⟩ := ob.lives
      refine ⟨a, e, ob.le L fun o ho => fr.keep a o ho (ob.nt ho) n1 nh n2, fun hm => ?_, fun hf => ?_⟩
      · obtain ⟨m, em, hm'⟩ := fr.mu
        rw [em] at hm
        rcases List.mem_append.mp hm with hm | hm
        · exact n1 hm
        · rcases hm' a hm with q | q
          · rw [eo] at q; cases q
          · exact nh q
      · rcases fr.new a hf with q | q | q
        · exact n2 q
        · rw [eo] at q; cases q
        · exact nh q
    · obtain ⟨a, e, r⟩ := ok2.loc.own i d h
      rw [wipe_out hi] at e
      exact ⟨a, e, r⟩
  · have key : ∀ {i j : Nat} {d e : D}, i ∈ vs → l1[i]? = some (some (.own d)) → σ[i]? = some (some (.ref a)) → j ∉ vs → l2[j]? = some (some (.own e)) → σ[j]? = some (some (.ref a)) → False := fun {i j d e} hi q1 q2 hj q3 q4 => by
      rcases fr.own a ⟨j, e, q3, by rw [wipe_out hj]; exact q4⟩ with z | z
      · exact hid hi q1 q2 z
      · exact live ⟨i, d, q1, q2⟩ z
    rcases own h1 with ⟨hi, q1⟩ | ⟨hi, q1⟩
    · rcases own h2 with ⟨hj, q2⟩ | ⟨hj, q2⟩
      · exact ok1.loc.dist i j d e a q1 q2 h3 h4
      · exact (key hi q1 h3 hj q2 h4).elim
    · rcases own h2 with ⟨hj, q2⟩ | ⟨hj, q2⟩
      · exact (key hj q2 h4 hi q1 h3).elim
      · exact ok2.loc.dist i j d e a q1 q2 (by rw [wipe_out hi]; exact h3) (by rw [wipe_out hj]; exact h4)
  · obtain ⟨m, em, hm⟩ := fr.mu
    exact ⟨m, em, fun a ha => (hm a ha).elim .inl fun z => .inr z.wiped⟩
  · rcases fr.new a h with q | q | q
    · exact .inl q
    · exact .inr (.inl q)
    · exact .inr (.inr q.wiped)
  · obtain ⟨i, d, h1, h2⟩ := h
    rcases own h1 with ⟨hi, q1⟩ | ⟨hi, q1⟩
    · exact .inl ⟨i, d, q1, h2⟩
    · rcases fr.own a ⟨i, d, q1, by rw [wipe_out hi]; exact h2⟩ with z | z
      · exact .inl z.wiped
      · exact .inr z
end
end Y
namespace Y
variable [TabC]
open PySem L2

/-- a comprehension's block -/
abbrev Blk (X : Cx) (scope : Scope) (s : Shared) (H : Hp) (C : Addr) (cl : List (Str × Addr)) (fp : List Addr) : Cx := X.blk s H scope (compEnvC scope cl C X.env) fp
def tGA (X : Cx) (scope : Scope) (tg : Expr) : TG := fun v σ H Q => ∀ s0 H0 C cl fp, tG (Blk X scope s0 H0 C cl fp) tg v σ H Q
def tEA (X : Cx) (scope : Scope) (e : Expr) : TE := fun σ H Q => ∀ s0 H0 C cl fp, tW (Blk X scope s0 H0 C cl fp) e σ H Q
def tTA (X : Cx) (scope : Scope) (e : Expr) : TT := fun σ H Q => ∀ s0 H0 C cl fp, tT (Blk X scope s0 H0 C cl fp) e σ H Q
inductive SCond (X : Cx) (scope : Scope) : List Expr → Option Sm → Prop
  | none : SCond X scope [] none
  | some {c : Expr} {m : Sm} : (∀ s H C cl fp, ST (Blk X scope s H C cl fp) c m) → SCond X scope [c] (some m)
section
variable {X : Cx} {K : PySem.W.Frag} {W W1 W2 : Wd} {H H1 H2 : Hp} {σ σ1 : L2.St} {l l1 l2 : Lc} {g g1 g2 : Gs} {vs : List Nat}
/-- the list that is being made: nobody else's -/
structure Acc (K : PySem.W.Frag) (W : Wd) (O : Addr → Prop) (H : Hp) (D : Addr) (acc : List Y.D) : Prop where
  ex : ∃ av, H D = some (.lst av) ∧ DenL K W H av acc
  mu : D ∉ W.mu
  F : ¬ W.F D
  own : ¬ O D
theorem Acc.fr {D : Addr} {acc : List Y.D} {O O' : Addr → Prop} (a : Acc K W O H D acc) (fr : Fr W H O W1 H1 O') (L : Le W H W1 H1) : Acc K W1 O' H1 D acc := by
  obtain ⟨av, h1, h2⟩ := a.ex
  refine ⟨⟨av, fr.keep D _ h1 (fun _ e => by cases e) a.mu a.own a.F, DenL.le L _ h2⟩, fun hm => ?_, fun hf => ?_, fun ho => ?_⟩
  · obtain ⟨m, em, hm'⟩ := fr.mu
    rw [em] at hm
    rcases List.mem_append.mp hm with hm | hm
    · exact a.mu hm
    · rcases hm' D hm with q | q
      · rw [h1] at q; cases q
      · exact a.own q
  · rcases fr.new D hf with q | q | q
    · exact a.F q
    · rw [h1] at q; cases q
    · exact a.own q
  · rcases fr.own D ho with q | q
    · exact a.own q
    · rw [h1] at q; cases q
/-- the list grows -/
theorem Acc.push {D : Addr} {acc : List Y.D} {y : V} {d : Y.D} {H0 : Hp} {W0 : Wd} {O0 : Addr → Prop} (ok : Ok K W l g σ H) (a : Acc K W (OwnA l σ) H D acc) (den : Den K W H y d) (f0 : Fr W0 H0 O0 W H (OwnA l σ)) (z : H0 D = none) :
    ∀ av, H D = some (.lst av) → DenL K W H av acc → Ok K W l g σ (upd H D (.lst (av ++ [y]))) ∧ Acc K W (OwnA l σ) (upd H D (.lst (av ++ [y]))) D (acc ++ [d]) ∧ Fr W0 H0 O0 W (upd H D (.lst (av ++ [y]))) (OwnA l σ) := by
  intro av h1 h2
  have L : Le W H W (upd H D (.lst (av ++ [y]))) := Le.write h1 trivial a.F
  have kne : ∀ b, b ≠ D → ∀ v, H b = some v → upd H D (.lst (av ++ [y])) b = some v := fun b hb v e => by rw [upd_ne hb]; exact e
  have dom : ∀ b, H b ≠ none → upd H D (.lst (av ++ [y])) b ≠ none := fun b hb => by
    unfold upd; split
    · simp
    · exact hb
  refine ⟨⟨⟨ok.rep.len, ok.rep.nd, fun n b x q1 q2 => (ok.rep.ob n b x q1 q2).le L (kne b fun q => a.mu (q ▸ List.mem_of_getElem? q1)), ok.rep.dis, fun b hb => ?_, ok.rep.tabs.put h1 .lst fun b u hb e => kne b hb u e⟩, ⟨ok.loc.len, fun i d h => ?_, fun i d h => ?_, ok.loc.dist⟩⟩,
    ⟨⟨_, upd_same, (DenL.le L _ h2).append (.cons (den.le L) .nil)⟩, a.mu, a.F, a.own⟩, ⟨f0.mu, f0.sub, f0.new, fun b o h nt q1 q2 q3 => ?_, fun b hb => dom b (f0.dom b hb), f0.own, fun b o h nt q1 q2 => ?_⟩⟩
  · obtain ⟨v, e, pv⟩ := ok.rep.fd b hb
    exact ⟨v, kne b (fun q => a.F (q ▸ hb)) v e, pv⟩
  · obtain ⟨v, e, dn⟩ := ok.loc.val i d h
    exact ⟨v, e, dn.le L⟩
  · obtain ⟨b, e, ob, n1, n2⟩ := ok.loc.own i d h
    exact ⟨b, e, ob.le L (kne b fun q => a.own ⟨i, d, h, q ▸ e⟩), n1, n2⟩
  · exact kne b (fun q => by rw [q, z] at h; cases h) o (f0.keep b o h nt q1 q2 q3)
  · have hb := kne b (fun q => by rw [q, z] at h; cases h)
    rcases f0.keepF b o h nt q1 q2 with e | ⟨kvs, ob, e1, e2⟩
    · exact .inl (hb _ e)
    · exact .inr ⟨kvs, ob, e1, hb _ e2⟩
theorem se_lc {elt tg iter : Expr} {ifs : List Expr} {scope : Scope} {own : List (Str × Nat)} {pos : Pos} {mi : Im} {t : Tg} {cond : Option Sm} {me : Sm} (hc : X.calm = true) (hN : X.N.Nodup) (hi : SI X tg iter mi) (bok : BlkOk X.N X.env.scope scope own)
    (hg : ∀ s H C cl fp, SG (Blk X scope s H C cl fp) tg t) (hsl : ∀ i ∈ t.slots, i ∈ own.map (·.2)) (ht : SCond X scope ifs cond) (he : ∀ s H C cl fp, SE (Blk X scope s H C cl fp) elt me)
    (hs : ∀ x, foldedSetIterable iter X.env x = pure x) : ∃ te, PE X (.ListComp elt [⟨tg, iter, ifs, 0⟩] scope pos) te ∧ (∀ {i : Nat} {y : Str} {py spos : Pos}, X.N[i]? = some y → X.env.scope.names.lookup y = some .local →
      swapsWith (.ListComp elt [⟨tg, iter, ifs, 0⟩] scope pos) (some (.Name y py)) spos.line X.env = pure true → PS X (.Assign [.Name y py] (.ListComp elt [⟨tg, iter, ifs, 0⟩] scope pos) spos) (tAsg te (gName i))) ∧
      ∀ (σ : L2.St) (H : Hp) (W : Wd) (l : Lc) (g : Gs) (Q : VK), Ok X.K W l g σ H → EPost X.K W H σ l (cLc mi t (own.map (·.2)) cond me l g) Q → te σ H Q := by
  -- the tests' reading
  obtain ⟨tt, htt, htq⟩ : ∃ tt : TT, (∀ s H C cl fp, PTs (Blk X scope s H C cl fp) ifs tt) ∧ ∀ (σ : L2.St) (H : Hp) (W : Wd) (l : Lc) (g : Gs) (Q : Bool → Hp → Prop), Ok X.K W l g σ H →
      (match cond with
        | none => Q true H
        | some c => TPost X.K W H σ l (c l g) Q) → tt σ H Q := by
    cases ht with
    | none => exact ⟨tYes, fun _ _ _ _ _ => pts_nil, fun σ H W l g Q ok q => q⟩
    | @some c m hm => exact ⟨tTA X scope c, fun s H C cl fp => pts_one ⟨fun pins s' σ H' Q I h => h s H C cl fp pins s' I⟩, fun σ H W l g Q ok q s0 H0 C cl fp => hm s0 H0 C cl fp σ H W l g Q ok q⟩
  refine ⟨tLc (tI X tg iter) (tGA X scope tg) tt (tEA X scope elt) (own.map (·.2)), ?_, ?_, ?_⟩
  · exact pe_lc hc hN pi_i bok (fun s H C cl fp => ⟨fun pins s' σ H' v u Q I r h => h s H C cl fp pins s' u I r⟩) htt (fun s H C cl fp => ⟨fun pins s' σ H' Q I h => h s H C cl fp pins s' I⟩) hs
  · intro i y py spos hy hyl hsw
    exact ps_setLc hc hN hy hyl hsw pi_i bok (fun s H C cl fp => ⟨fun pins s' σ H' v u Q I r h => h s H C cl fp pins s' u I r⟩) htt (fun s H C cl fp => ⟨fun pins s' σ H' Q I h => h s H C cl fp pins s' I⟩) hs
  · intro σ H W l g Q ok p
    generalize hvs : own.map (·.2) = vs at p hsl ⊢
    unfold cLc at p
    cases em : mi l g with
    | no => rw [em] at p; exact False.elim p
    | ok ds gd l1 g1 =>
      rw [em] at p
      have p : EPost X.K W H σ l ((compL gd ds t vs cond me ds [] (wipeL l1 vs) g1).bind fun d f l2 g2 => .ok d f (restL l1 l2 vs) g2) Q := p
      refine hi σ H W l g ds gd l1 g1 _ ok em fun J W1 H1 ok1 fr1 gk JO => ?_
      intro D hD
      have okD := ok1.alloc (o := .lst []) hD
      have LD : Le W1 H1 W1 (upd H1 D (.lst [])) := Le.alloc hD
      obtain ⟨nD1, nD2, nD3⟩ := ok1.outside hD
      -- the state ahead of the i-th turn
      let St := fun (i : Nat) (H' : Hp) => ∃ W2 lb g2 acc, Ok X.K W2 lb g2 (wipe σ vs) H' ∧ Acc X.K W2 (OwnA lb (wipe σ vs)) H' D acc ∧ Fr W1 H1 (OwnA (wipeL l1 vs) (wipe σ vs)) W2 H' (OwnA lb (wipe σ vs)) ∧
        EPost X.K W H σ l ((compL gd ds t vs cond me (ds.drop i) acc lb g2).bind fun d f l2 g2 => .ok d f (restL l1 l2 vs) g2) Q
      refine ⟨fun i m H' => m = ds.length - i ∧ i ≤ ds.length ∧ St i H', ⟨ds.length, by simp, Nat.zero_le _, W1, wipeL l1 vs, g1, [], okD.wiped, ⟨⟨[], upd_same, .nil⟩, nD1, nD2, fun h => nD3 h.wiped⟩, Fr.alloc hD, p⟩, ?_⟩
      rintro i m H' ⟨rfl, hil, W2, lb, g2, acc, ok2, ac2, fr2, p2⟩
      have le2 : Le W1 H1 W2 H' := fr2.le ok1.rep fun a ha => ⟨ok1.loc.ownMut ha.wiped, (ok1.loc.ownNot ha.wiped).2⟩
      have frO : Fr W1 H1 (OwnA l1 σ) W2 H' (OwnA lb (wipe σ vs)) := by
        refine ⟨?_, fr2.sub, fun a h => ?_, fun a o h nt h1 h2 h3 => fr2.keep a o h nt h1 (fun z => h2 z.wiped) h3, fr2.dom, fun a h => (fr2.own a h).elim (fun z => .inl z.wiped) .inr, fun a o h nt h1 h2 => fr2.keepF a o h nt h1 fun z => h2 z.wiped⟩
        · obtain ⟨m, em, hm⟩ := fr2.mu
          exact ⟨m, em, fun a ha => (hm a ha).elim .inl fun z => .inr z.wiped⟩
        · rcases fr2.new a h with q | q | q
          · exact .inl q
          · exact .inr (.inl q)
          · exact .inr (.inr q.wiped)
      have L : ∀ {q : gdOk gd ds g2 = true}, Live X.K W1 H1 (OwnA l1 σ) gd ds W2 g2 H' := fun {q} => ⟨ok2.rep, ⟨_, frO⟩, le2, q⟩
      by_cases hlt : i < ds.length
      · right
        rw [List.drop_eq_getElem_cons hlt] at p2
        simp only [compL] at p2
        by_cases gk2 : gdOk gd ds g2 = true
        · rw [if_pos gk2] at p2
          refine ⟨JO.go i W2 g2 H' (L (q := gk2)) hlt, St (i + 1), fun H3 q => ⟨ds.length - (i + 1), by omega, rfl, hlt, q⟩, fun x H4 y => ?_⟩
          obtain ⟨d, ed, nv⟩ := JO.yld i x W2 g2 H' H4 (L (q := gk2)) hlt y
          have ed' : d = ds[i] := by
            rw [List.getElem?_eq_getElem hlt] at ed
            exact (Option.some.inj ed).symm
          subst ed'
          obtain ⟨ok4, fr4, den4⟩ := nv.alloc ok2
          have ac4 := ac2.fr fr4 (ok2.le fr4)
          cases et : t.put ds[i] lb g2 with
          | none => rw [et] at p2; exact False.elim p2
          | some l5 =>
            rw [et] at p2
            simp only at p2
            intro s0 H0 C cl fp
            refine hg s0 H0 C cl fp (wipe σ vs) H4 W2 lb g2 x _ l5 _ ok4 den4 et fun σ5 ok5 fr5 on5 => ⟨wipe_only on5 hsl, ?_⟩
            have fr25 := (fr2.trans fr4).trans fr5
            have ac5 := ac4.fr fr5 (ok4.le fr5)
            -- the element, from any state behind the tests
            have elem : ∀ (W6 : Wd) (H6 : Hp) (l6 : Lc) (g6 : Gs), Ok X.K W6 l6 g6 σ5 H6 → Fr W2 H4 (OwnA l5 σ5) W6 H6 (OwnA l6 σ5) →
                EPost X.K W H σ l (((me l6 g6).bind fun y _ l g => if acc.length < sizeLine then compL gd ds t vs cond me (ds.drop (i + 1)) (acc ++ [y]) (wipeL l vs) g else .no).bind fun d f l2 g2 => .ok d f (restL l1 l2 vs) g2) Q →
                tEA X scope elt σ5 H6 fun y H7 => ∃ a, H7 D = some (.lst a) ∧ a.length < sizeLine ∧ St (i + 1) (upd H7 D (.lst (a ++ [y]))) := by
              intro W6 H6 l6 g6 ok6 fr6 p6 s0 H0 C cl fp
              have fr26 := fr25.trans fr6
              have ac6 := ac5.fr fr6 (ok5.le fr6)
              cases ee : me l6 g6 with
              | no => rw [ee] at p6; exact False.elim p6
              | ex c d l g => rw [ee] at p6; exact False.elim p6
              | ok y f l7 g7 =>
                rw [ee] at p6
                simp only [ER.bind] at p6
                refine (he s0 H0 C cl fp).atV ok6 ee fun v W7 H7 ok7 fr7 den7 => ?_
                have ac7 := ac6.fr fr7 (ok6.le fr7)
                obtain ⟨av, h1, h2⟩ := ac7.ex
                by_cases hz : acc.length < sizeLine
                · rw [if_pos hz] at p6
                  refine ⟨av, h1, by rw [h2.length]; exact hz, ?_⟩
                  obtain ⟨ok8, ac8, fr8⟩ := ac7.push ok7 den7 (fr26.trans fr7) hD av h1 h2
                  obtain ⟨ok9, own9⟩ := ok8.rewiped (wipe_only on5 hsl)
                  refine ⟨W7, wipeL l7 vs, g7, acc ++ [y], ok9, ⟨ac8.ex, ac8.mu, ac8.F, fun h => ac8.own (own9 D h)⟩, ⟨fr8.mu, fr8.sub, fr8.new, fr8.keep, fr8.dom, fun a h => fr8.own a (own9 a h), fr8.keepF⟩, p6⟩
                · rw [if_neg hz] at p6; exact False.elim p6
            refine htq σ5 H4 W2 l5 g2 _ ok5 ?_
            cases cond with
            | none =>
              simp only at p2 ⊢
              rw [if_pos trivial]
              exact elem W2 H4 l5 g2 ok5 Fr.refl p2
            | some c =>
              simp only at p2 ⊢
              cases ec : c l5 g2 with
              | no => rw [ec] at p2; exact False.elim p2
              | ex c d l g => rw [ec] at p2; exact False.elim p2
              | ok b f l6 g6 =>
                rw [ec] at p2
                cases b with
                | bl b =>
                  intro W6 H6 ok6 fr6
                  cases b with
                  | true =>
                    rw [if_pos rfl]
                    exact elem W6 H6 l6 g6 ok6 fr6 p2
                  | false =>
                    rw [if_neg Bool.false_ne_true]
                    have fr26 := fr25.trans fr6
                    have ac6 := ac5.fr fr6 (ok5.le fr6)
                    obtain ⟨ok9, own9⟩ := ok6.rewiped (wipe_only on5 hsl)
                    exact ⟨W6, wipeL l6 vs, g6, acc, ok9, ⟨ac6.ex, ac6.mu, ac6.F, fun h => ac6.own (own9 D h)⟩, ⟨fr26.mu, fr26.sub, fr26.new, fr26.keep, fr26.dom, fun a h => fr26.own a (own9 a h), fr26.keepF⟩, p2⟩
                | _ => exact False.elim p2
        · rw [if_neg gk2] at p2; exact False.elim p2
      · have ei : i = ds.length := by omega
        subst ei
        left
        rw [List.drop_length] at p2
        simp only [compL] at p2
        by_cases gk2 : gdOk gd ds g2 = true
        · rw [if_pos gk2] at p2
          refine ⟨JO.stop _ W2 g2 H' (L (q := gk2)) (Nat.le_refl _), ?_⟩
          obtain ⟨ok3, fr3⟩ := ok1.back ok2 fr2
          have p2 : EPost X.K W H σ l (.ok (.lst acc) true (restL l1 lb vs) g2) Q := p2
          obtain ⟨av, h1, h2⟩ := ac2.ex
          refine p2 (.ref D) W2 H' ok3 (fr1.trans fr3) ⟨D, rfl, .lst h1 h2, ac2.mu, ac2.F, fun h => ?_, .inl (fr1.nz hD)⟩
          obtain ⟨i, d, q1, q2⟩ := h
          by_cases hiv : i ∈ vs
          · exact nD3 ⟨i, d, restL_in hiv q1, q2⟩
          · rw [restL_out hiv] at q1
            exact ac2.own ⟨i, d, q1, by rw [wipe_out hiv]; exact q2⟩
        · rw [if_neg gk2] at p2; exact False.elim p2
end
end Y
namespace Y
variable [TabC]
open PySem L2

/-! ### what is seen of the text -/
def notStar : Expr → Bool
  | .Starred _ _ => false
  | _ => true
theorem star1 {X : Cx} {e : Expr} (h : notStar e = true) : Star1 X e := fun es => by cases e <;> first | rfl | cases h
def notSlice : Expr → Bool
  | .Slice .. => false
  | _ => true
theorem plainIx {e : Expr} (h : notSlice e = true) : PlainIx e := fun o i => by cases e <;> first | rfl | cases h
def plainTest : Expr → Bool
  | .UnaryOp .Not .. => false
  | .BoolOp .. => false
  | .IfExp .. => false
  | .Compare .. => false
  | _ => true
theorem plain_test {e : Expr} {env : Env} (h : plainTest e = true) : ∀ whole, isTrue e env whole = (do let v ← whole; standAt e.pos; holding [v] (truthy v)) := fun whole => by
  cases e with
  | UnaryOp op _ _ => cases op <;> first | rfl | cases h
  | BoolOp _ _ _ => cases h
  | IfExp _ _ _ _ => cases h
  | Compare _ _ _ _ => cases h
  | _ => rfl
def plainBase : Expr → Bool
  | .Call (.Name _ _) [] [] _ => false
  | _ => true
theorem plain_base {o : Expr} {m : Str} {env : Env} {w : Sem Value} (h : plainBase o = true) : attributeBase o m env w = w := by
  cases o with
  | Call f as ks p =>
    cases f with
    | Name x p =>
      cases as with
      | nil => cases ks with
        | nil => cases h
        | cons _ _ => rfl
      | cons _ _ => rfl
    | _ => rfl
  | _ => rfl
def notSet : Expr → Bool
  | .Set .. => false
  | _ => true
theorem not_set {e : Expr} {env : Env} (h : notSet e = true) : ∀ x, foldedSetIterable e env x = pure x := fun x => by cases e <;> first | rfl | cases h
def notComp : Expr → Bool
  | .ListComp .. => false
  | .SetComp .. => false
  | .DictComp .. => false
  | _ => true
theorem not_comp {e : Expr} {t : Option Expr} {n : Nat} {env : Env} (h : notComp e = true) : swapsWith e t n env = pure false := by cases e <;> first | rfl | cases h
def notName : Expr → Bool
  | .Name .. => false
  | _ => true
theorem not_name {e t : Expr} {n : Nat} {env : Env} (h : notName t = true) : swapsWithSole [t] e n env = pure false := by
  show swapsWith e (some t) n env = pure false
  cases e <;> first | rfl | (cases t <;> first | rfl | cases h)
def notPair : Expr → Expr → Bool
  | .Tuple .., .Tuple .. => false
  | .List .., .Tuple .. => false
  | _, _ => true
theorem not_pair {e t : Expr} {env : Env} (h : notPair t e = true) : swappedStores [t] e env = pure none := by
  cases t with
  | Tuple a b c => cases e <;> first | rfl | cases h
  | List a b => cases e <;> first | rfl | cases h
  | _ => cases e <;> rfl

section
variable {X : Cx} {K : PySem.W.Frag} {W W1 : Wd} {H H1 : Hp} {σ σ1 : L2.St} {l l1 : Lc} {g g1 : Gs} {e a b c : Expr} {ma mb mc : Sm} {pos : Pos}
/-! ### a op b op c -/
def prK (p : PR) (k : D → Sm) (l : Lc) (g : Gs) : ER := match p with
  | .sh d => k d l g
  | .nw d => k d l g
  | .no => .no
def cChain (f f' : D → D → PR) (a b c : Sm) : Sm := fun l g => (a l g).bind fun x _ l g => (b l g).bind fun y _ l g =>
  prK (f (x.cont g) (y.cont g)) (fun r l g => onB r ((c l g).bind fun z _ l g => lift (f' (y.cont g) (z.cont g)) l g) (.ok (.bl false) false l g) .no) l g
/-- rules whose answer is a truth and leave the heap -/
def PB (K : PySem.W.Frag) (r : R2) (f : D → D → PR) : Prop := ∀ (v u : V) (x y : D) (W : Wd) (H : Hp) (Q : VK) (k : Bool), Con K W H v x → Con K W H u y → f x y = .sh (.bl k) → (∀ v' H', NewV K W H v' H' (.bl k) false → Q v' H') → r v u H Q
def isBlPR : PR → Prop
  | .sh (.bl _) => True
  | .no => True
  | _ => False
theorem pb_of {r : R2} {f : D → D → PR} (h : P2 K r f) (hb : ∀ x y, isBlPR (f x y)) : PB K r f := fun v u x y W H Q k c1 c2 e q => by
  refine h v u x y W H Q c1 c2 ?_
  rw [e]
  exact q
theorem chain_core {op op' : CmpOp} {r r' : R2} {f f' : D → D → PR} (hf : P2 X.K r f) (hbl : ∀ x y, isBlPR (f x y)) (hf' : P2 X.K r' f') (ha : SE X a ma) (hb : SE X b mb) (hc : SE X c mc) {Q : VK} (ok : Ok X.K W l g σ H) (p : EPost X.K W H σ l (cChain f f' ma mb mc l g) Q) :
    tChain r r' (tW X a) (tW X b) (tW X c) σ H Q := by
  refine ha.bindV ok p fun x _ l1 g1 v W1 H1 p1 ok1 fr1 le1 den => hb.bindV ok1 p1 fun y _ l2 g2 u W2 H2 p2 ok2 fr2 le2 den2 => ?_
  have cx := Con.of_den ok2.rep (den.le le2)
  have cy := Con.of_den ok2.rep den2
  have hk := hbl (x.cont g2) (y.cont g2)
  cases ef : f (x.cont g2) (y.cont g2) with
  | no => rw [ef] at p2; exact False.elim p2
  | nw d => rw [ef] at hk; exact False.elim hk
  | sh d =>
    rw [ef] at p2 hk
    cases d with
    | bl k =>
      refine pb_of hf hbl v u _ _ W2 H2 _ k cx cy ef fun v3 H3 n => ?_
      obtain ⟨ok3, fr3, d3⟩ := n.alloc ok2
      obtain rfl := (Con.den d3).bl
      have le0 := ok2.le fr3
      refine ⟨k, rfl, ?_⟩
      cases k with
      | true =>
        rw [if_pos rfl]
        refine hc.bindV ok3 (EPost.shift fr3 p2) fun z _ l3 g3 w W3 H3 p3 ok3 fr3 le3 den3 => ?_
        exact hf' u w _ _ W3 H3 Q (Con.of_den ok3.rep ((den2.le le0).le le3)) (Con.of_den ok3.rep den3) (lift_out ok3 p3)
      | false =>
        rw [if_neg Bool.false_ne_true]
        exact EPost.shift fr3 p2 _ W2 H3 ok3 Fr.refl (.bl _)
    | _ => exact False.elim hk
theorem se_chain {op op' : CmpOp} {r r' : R2} {f f' : D → D → PR} (ho : OpR X (compareOp op) r) (ho' : OpR X (compareOp op') r') (hm : lastMarks [op, op'] [b, c] = false) (hf : P2 X.K r f) (hbl : ∀ x y, isBlPR (f x y)) (hf' : P2 X.K r' f')
    (ha : SE X a ma) (hb : SE X b mb) (hc : SE X c mc) : SE X (.Compare a [op, op'] [b, c] pos) (cChain f f' ma mb mc) := fun σ H W l g Q ok p =>
  tW.of (pe_chain ho ho' pe_w pe_w pe_w hm) (chain_core (op := op) (op' := op') hf hbl hf' ha hb hc ok p)
theorem TPost.toE {r : ER} {Q : Bool → Hp → Prop} (p : TPost K W H σ l r Q) : EPost K W H σ l r fun v H' => ∃ b, v = .bl b ∧ Q b H' := by
  obtain ⟨b, f, l', g', e, h⟩ := p.get
  rw [e]
  intro v W' H' ok' f' r
  have nb : f = false := by
    cases f with
    | false => rfl
    | true => obtain ⟨_, _, ob, _⟩ := r; cases ob
  subst nb
  have r : Den K W' H' v (.bl b) := r
  cases r
  exact ⟨b, rfl, h W' H' ok' f'⟩
theorem st_chain {op op' : CmpOp} {r r' : R2} {f f' : D → D → PR} (ho : OpR X (compareOp op) r) (ho' : OpR X (compareOp op') r') (hm : lastMarks [op, op'] [b, c] = false) (hf : P2 X.K r f) (hbl : ∀ x y, isBlPR (f x y)) (hf' : P2 X.K r' f')
    (ha : SE X a ma) (hb : SE X b mb) (hc : SE X c mc) : ST X (.Compare a [op, op'] [b, c] pos) (cChain f f' ma mb mc) := fun σ H W l g Q ok p pins s I =>
  (pt_chain ho ho' pe_w pe_w pe_w hm).run pins s σ H Q I (chain_core (op := op) (op' := op') hf hbl hf' ha hb hc ok p.toE)
/-! ### -a -/
def dNeg : D → PR
  | .int i => .sh (.int (-i))
  | _ => .no
theorem se_neg {o : Opd} (ha : SO X a o) : SE X (.UnaryOp .USub a pos) (cU dNeg o) := by
  intro σ H W l g Q ok p
  obtain ⟨t, pe, ht⟩ := su (R := fun v H1 => (rU fun i => .int (-i)) v H1 Q) o ha ok p fun v d W1 H1 c o => by
    unfold dNeg at o
    split at o
    · cases c.int; exact ⟨_, rfl, o.int⟩
    · exact False.elim o
  exact tW.of (pe_un un_neg pe) ht

/-! ### {k: v, ..} -/
/-- an object in the making: nobody else's -/
structure Tmp (W : Wd) (O : Addr → Prop) (H : Hp) (a : Addr) (o : HO) : Prop where
  at_ : H a = some o
  mu : a ∉ W.mu
  F : ¬ W.F a
  own : ¬ O a
  pl : Plain o
theorem Tmp.fr {a : Addr} {o : HO} {O O' : Addr → Prop} (t : Tmp W O H a o) (fr : Fr W H O W1 H1 O') : Tmp W1 O' H1 a o := by
  refine ⟨fr.keep a _ t.at_ t.pl.1 t.mu t.own t.F, fun hm => ?_, fun hf => ?_, fun ho => ?_, t.pl⟩
  · obtain ⟨m, em, hm'⟩ := fr.mu
    rw [em] at hm
    rcases List.mem_append.mp hm with hm | hm
    · exact t.mu hm
    · rcases hm' a hm with q | q
      · rw [t.at_] at q; cases q
      · exact t.own q
  · rcases fr.new a hf with q | q | q
    · exact t.F q
    · rw [t.at_] at q; cases q
    · exact t.own q
  · rcases fr.own a ho with q | q
    · exact t.own q
    · rw [t.at_] at q; cases q
theorem Ok.tmpPut {a : Addr} {o o' : HO} {H0 : Hp} {W0 : Wd} {O0 : Addr → Prop} (ok : Ok K W l g σ H) (t : Tmp W (OwnA l σ) H a o) (mu : Mut (some o)) (f0 : Fr W0 H0 O0 W H (OwnA l σ)) (z : H0 a = none) :
    Ok K W l g σ (upd H a o') ∧ Fr W0 H0 O0 W (upd H a o') (OwnA l σ) ∧ Le W H W (upd H a o') := by
  have L : Le W H W (upd H a o') := Le.write t.at_ mu t.F
  have kne : ∀ b, b ≠ a → ∀ v, H b = some v → upd H a o' b = some v := fun b hb v e => by rw [upd_ne hb]; exact e
  have dom : ∀ b, H b ≠ none → upd H a o' b ≠ none := fun b hb => by
    unfold upd; split
    · simp
    · exact hb
  refine ⟨⟨⟨ok.rep.len, ok.rep.nd, fun n b x q1 q2 => (ok.rep.ob n b x q1 q2).le L (kne b fun q => t.mu (q ▸ List.mem_of_getElem? q1)), ok.rep.dis, fun b hb => ?_, ok.rep.tabs.put t.at_ t.pl fun b u hb e => kne b hb u e⟩, ⟨ok.loc.len, fun i d h => ?_, fun i d h => ?_, ok.loc.dist⟩⟩,
    ⟨f0.mu, f0.sub, f0.new, fun b o h nt q1 q2 q3 => ?_, fun b hb => dom b (f0.dom b hb), f0.own, fun b o h nt q1 q2 => ?_⟩, L⟩
  · obtain ⟨v, e, pv⟩ := ok.rep.fd b hb
    exact ⟨v, kne b (fun q => t.F (q ▸ hb)) v e, pv⟩
  · obtain ⟨v, e, dn⟩ := ok.loc.val i d h
    exact ⟨v, e, dn.le L⟩
  · obtain ⟨b, e, ob, n1, n2⟩ := ok.loc.own i d h
    exact ⟨b, e, ob.le L (kne b fun q => t.own ⟨i, d, h, q ▸ e⟩), n1, n2⟩
  · exact kne b (fun q => by rw [q, z] at h; cases h) o (f0.keep b o h nt q1 q2 q3)
  · have hb := kne b (fun q => by rw [q, z] at h; cases h)
    rcases f0.keepF b o h nt q1 q2 with e | ⟨kvs, ob, e1, e2⟩
    · exact .inl (hb _ e)
    · exact .inr ⟨kvs, ob, e1, hb _ e2⟩
/-- the pairs of a display, from the left -/
def cPairs : List (Sm × Sm) → (List (D × D) → Sm) → Sm
  | [], k => k []
  | (mk, mv) :: ms, k => fun l g => (mk l g).bind fun x _ l g => (mv l g).bind fun y _ l g => cPairs ms (fun ps => k ((x, y) :: ps)) l g
inductive SPs (X : Cx) : List (Option Expr) → List Expr → List (Sm × Sm) → Prop
  | nil : SPs X [] [] []
  | cons {k v : Expr} {ks : List (Option Expr)} {vs : List Expr} {mk mv : Sm} {ms : List (Sm × Sm)} : SE X k mk → SE X v mv → SPs X ks vs ms → SPs X (some k :: ks) (v :: vs) ((mk, mv) :: ms)
inductive DenQ (K : PySem.W.Frag) (W : Wd) (H : Hp) : List (V × V) → List (D × D) → Prop
  | nil : DenQ K W H [] []
  | cons {k v : V} {dk d : D} {vs : List (V × V)} {ds : List (D × D)} : Den K W H k dk → Den K W H v d → DenQ K W H vs ds → DenQ K W H ((k, v) :: vs) ((dk, d) :: ds)
def trsOf (X : Cx) : List (Option Expr) → List Expr → List (TE × TE)
  | some k :: ks, v :: vs => (tW X k, tW X v) :: trsOf X ks vs
  | _, _ => []
theorem sps_run {W0 : Wd} {H0 : Hp} {l0 : Lc} {Q : VK} {R : List (V × V) → Hp → Prop} : ∀ {ks : List (Option Expr)} {vs : List Expr} {ms : List (Sm × Sm)} {k : List (D × D) → Sm} {H : Hp} {W : Wd} {l : Lc} {g : Gs}, SPs X ks vs ms → Ok X.K W l g σ H → EPost X.K W0 H0 σ l0 (cPairs ms k l g) Q →
    (∀ ds ws W1 H1 l1 g1, EPost X.K W0 H0 σ l0 (k ds l1 g1) Q → Ok X.K W1 l1 g1 σ H1 → Fr W H (OwnA l σ) W1 H1 (OwnA l1 σ) → DenQ X.K W1 H1 ws ds → R ws H1) → tPairs (trsOf X ks vs) σ H R := by
  intro ks vs ms k H W l g h
  induction h generalizing R k H W l g with
  | nil => exact fun ok p go => go [] [] W H l g p ok Fr.refl .nil
  | cons h1 h2 h3 ih =>
    intro ok p go
    obtain ⟨x, f1, l1, g1, e1, p1⟩ := p.bind
    obtain ⟨y, f2, l2, g2, e2, p2⟩ := p1.bind
    refine h1.atV ok e1 fun v W1 H1 ok1 fr1 den => h2.atV ok1 e2 fun u W2 H2 ok2 fr2 den2 => ?_
    refine ih (R := fun ps H3 => R ((v, u) :: ps) H3) (k := fun ps => k ((x, y) :: ps)) ok2 p2 fun ds ws W3 H3 l3 g3 p3 ok3 fr3 dq => ?_
    exact go _ _ W3 H3 l3 g3 p3 ok3 ((fr1.trans fr2).trans fr3) (.cons ((den.le (ok1.le fr2)).le (ok2.le fr3)) (den2.le (ok2.le fr3)) dq)
theorem SPs.pps {ks : List (Option Expr)} {vs : List Expr} {ms : List (Sm × Sm)} (h : SPs X ks vs ms) : PPs X pos ks vs (trsOf X ks vs) ∧ ks.all (·.isSome) = true ∧ ks.length = vs.length ∧ ks.length = ms.length := by
  induction h with
  | nil => exact ⟨pps_nil, rfl, rfl, rfl⟩
  | cons h1 h2 h3 ih => exact ⟨pps_cons pe_w pe_w ih.1, by simpa using ih.2.1, by simp [ih.2.2.1], by simp [ih.2.2.2]⟩
def keysOk (ps : List (D × D)) : Bool := ps.all fun p => (keyOfD p.1).isSome
theorem keys_of : ∀ {ws : List (V × V)} {ps : List (D × D)}, DenQ K W H ws ps → keysOk ps = true → ∃ kvs : List (Key × V), ws = kvs.map (fun kv => (kV kv.1, kv.2)) ∧ DenP K W H kvs ps
  | _, _, .nil, _ => ⟨[], rfl, .nil⟩
  | _, _, .cons (k := k) (v := v) (dk := dk) h1 h2 h3, hk => by
    simp only [keysOk, List.all_cons, Bool.and_eq_true] at hk
    obtain ⟨kvs, e, hp⟩ := keys_of h3 hk.2
    obtain ⟨kk, ek⟩ := Option.isSome_iff_exists.mp hk.1
    have := keyOfD_den h1 ek
    subst this
    exact ⟨(kk, v) :: kvs, by rw [e]; rfl, .cons h1 h2 hp⟩
theorem DenP.le' {kvs : List (Key × V)} {ps : List (D × D)} (h : DenP K W H kvs ps) (L : Le W H W1 H1) : DenP K W1 H1 kvs ps := DenP.le L ps h
def mkD (ps : List (D × D)) : D := .dct (ps.foldl (fun acc p => putD acc p.1 p.2) [])
def cDct (ms : List (Sm × Sm)) : Sm := cPairs ms fun ps l g => if keysOk ps = true ∧ ps.length ≤ 15 then .ok (mkD ps) true l g else .no
theorem se_dict {ks : List (Option Expr)} {vs : List Expr} {ms : List (Sm × Sm)} (h : SPs X ks vs ms) (h15 : ks.length ≤ 15) : SE X (.Dict ks vs pos) (cDct ms) := by
  intro σ H W l g Q ok p
  obtain ⟨pps, hall, hlen, _⟩ := h.pps (pos := pos)
  by_cases h0 : ks = []
  · subst h0
    cases h
    refine tW.of pe_dnewK fun p' hp => ?_
    exact NewV.post ok (.dct hp .nil) p
  · refine tW.of (pe_disp pps hall hlen h0 h15) fun a ha => ?_
    obtain ⟨n1, n2, n3⟩ := ok.outside ha
    have ok0 := ok.alloc (o := .dK []) ha
    have t0 : Tmp W (OwnA l σ) (upd H a (.dK [])) a (.dK []) := ⟨upd_same, n1, n2, n3, .dK⟩
    refine sps_run h ok0 p fun ds ws W1 H1 l1 g1 p1 ok1 fr1 dq => ?_
    have t1 := t0.fr fr1
    obtain ⟨⟨hk, h15⟩, p1⟩ := p1.ite
    obtain ⟨kvs, ew, hp⟩ := keys_of dq hk
    refine ⟨t1.at_, kvs, ew, by rw [hp.len]; exact h15, ?_⟩
    obtain ⟨ok2, fr2, L2⟩ := ok1.tmpPut (o' := .dK (mergeK [] kvs)) t1 trivial ((Fr.alloc ha).trans fr1) ha
    exact p1 (.ref a) W1 _ ok2 fr2 ⟨a, rfl, .dct upd_same ((hp.merge .nil).le' L2), t1.mu, t1.F, t1.own, .inl ha⟩
end
end Y
namespace Y
variable [TabC]
open PySem L2

/-! ### sorted -/
section
open PySem.Spec PyProof.Rows
/-- collect of a tuple -/
theorem collect_tuple {prog : Program} {w : World} {A : Around} {E : Value → Shared → Prop} {s : Shared} {l : Addr} {vs : List Value} {Q : List Value → Shared → Prop} (hl : s.heap.IsTuple l vs.toArray) (hsz : vs.length ≤ sizeLine)
    (h : Q vs { s with heap := (s.heap.push (seqObj "list" #[] 0)).update s.heap.objs.size (Obj.mapSeq (· ++ vs.toArray)) }) :
    wpAny (model prog w) A (collect (.ref l)) Q E s := by
  obtain ⟨o, ho, hc, n, hd⟩ := id hl
  unfold collect
  refine wpAny_bind (wpAny_runValue (codeAny_builtin entry_proto_collect' ?_))
  show wpAny _ _ (do again (.builtin "list.__iadd__" ⟨[← newList [], .ref l], []⟩)) _ _ s
  refine wpAny_bind (wpAny_newList (wpAny_pure ⟨Code.quiet_builtin _ (by decide +kernel), codeAny_builtin entry_list_iadd' ?_⟩))
  show wpAny _ _ (Builtin.List.listExtendWith (.ref s.heap.objs.size) (.ref l) (.ref s.heap.objs.size)) _ _ { s with heap := s.heap.push (seqObj "list" #[] 0) }
  unfold Builtin.List.listExtendWith
  have ho' : (s.heap.push (seqObj "list" #[] 0)).get? l = some o := Heap.get?_push_of_some _ ho
  refine wpAny_bind (wpAny_typeOf (T := "tuple") ⟨o, ho', hc⟩ ?_)
  have ht : (Value.type "tuple" == Value.type "tuple") = true := by rfl
  rw [if_pos (by rw [ht]; simp)]
  refine wpAny_bind (listItems_at ho' hd ?_)
  refine wpAny_bind (listItems_at (xs := #[]) (n := 0) (Heap.get?_push_size _ rfl) rfl ?_)
  rw [if_neg (by simp)]
  refine wpAny_bind (listUpdate_at (xs := #[]) (n := 0) (Heap.get?_push_size _ rfl) rfl ?_ (Nat.zero_le _) (by show (#[] ++ vs.toArray).size ≤ sizeLine + 1; simp only [Array.size_append, List.size_toArray, List.length_nil]; omega))
  refine wpAny_pure ?_
  show wpAny (model prog w) A (do
      let o ← load s.heap.objs.size
      match o.data with
      | .seq xs _ => pure xs.toList
      | _ => unsupported "internal:collect") Q E { s with heap := (s.heap.push (seqObj "list" #[] 0)).update s.heap.objs.size (Obj.mapSeq (· ++ vs.toArray)) }
  refine wpAny_bind (wpAny_load (get?_update_seq (Heap.get?_push_size _ rfl) _) ?_)
  show wpAny _ _ (pure ((#[] : Array Value) ++ vs.toArray).toList) Q E _
  rw [show ((#[] : Array Value) ++ vs.toArray).toList = vs by simp]
  exact wpAny_pure h
theorem copy_old {h : Heap} {vs : List Value} {b : Addr} {o : Obj} (e : h.get? b = some o) : ((h.push (seqObj "list" #[] 0)).update h.objs.size (Obj.mapSeq (· ++ vs.toArray))).get? b = some o := by
  have hlt : b < h.objs.size := Heap.lt_size e
  rw [Heap.get?_update_ne _ _ _ _ (Nat.ne_of_lt hlt), Heap.get?_push_ne _ _ _ (Nat.ne_of_lt hlt)]
  exact e
variable {X : Cx}
/-- what may be collected: P its items in order -/
def Coll (X : Cx) (H : Hp) (a : Addr) (P : List V → Prop) : Prop := ∀ (pins : List (Addr × Obj)) (s : Shared) (σ : L2.St) (A : Around) (E : Value → Shared → Prop) (R : List Value → Shared → Prop), Inv X pins σ H s → A.handled = none →
  (∀ s' xs acc, Inv X pins σ H s' → P xs → Vals xs acc → acc.length ≤ sizeLine → R acc s') → wpAny (model X.prog X.w) A (collect (.ref a)) R E s
theorem Coll.list {H : Hp} {a : Addr} {xs : List V} (h : SqL X.K H a xs) : Coll X H a (· = xs) := by
  intro pins s σ A E R I hh k
  obtain ⟨its, r, pl, hz⟩ := I.list h
  have hz' : its.length ≤ sizeLine := by rw [← r.length]; exact hz
  refine collect_list pl.isList ?_ hz'
  exact k _ _ its (I.kept (t' := s.toks) fun b o q => copy_old q) rfl r hz'
theorem Coll.tup {H : Hp} {a : Addr} {xs : List V} (h : SqT X.K H a xs) : Coll X H a (· = xs) := by
  intro pins s σ A E R I hh k
  obtain ⟨its, r, pl, hz⟩ := I.tuple h
  have hz' : its.length ≤ sizeLine := by rw [← r.length]; exact hz
  refine collect_tuple pl hz' ?_
  exact k _ _ its (I.kept (t' := s.toks) fun b o q => copy_old q) rfl r hz'
theorem Coll.dK {H : Hp} {a : Addr} {kvs : List (Key × V)} (h : Rd H a (.dK kvs)) : Coll X H a (· = kvs.map fun kv => kV kv.1) := by
  intro pins s σ A E R I hh k
  obtain ⟨z, lo, vs, rel, dd⟩ := dk_rd I.hok h
  obtain ⟨ep, hat⟩ := dd.dictAt
  have hz : vs.length ≤ sizeLine := by rw [← rel.length]; exact z
  refine PySem.W.kdu_collect (PySem.W.kdl_dict (knd := mixKind X.prog X.w) (kvs := vs) (ep := ep) lo) hh hat hz fun h' tk acc hk hacc => ?_
  have hl : acc.toList.length = vs.length := by rw [Array.length_toList, hacc.1]
  refine k { s with heap := h', toks := tk } _ acc.toList (I.kept hk) rfl ?_ (by rw [hl]; exact hz)
  have e : (kvs.map fun kv => kV kv.1) = vs.map fun p => kV p.1 := by
    have := rel.keys
    calc (kvs.map fun kv => kV kv.1) = (kvs.map (·.1)).map kV := by rw [List.map_map]; rfl
      _ = (vs.map (·.1)).map kV := by rw [this]
      _ = _ := by rw [List.map_map]; rfl
  rw [e]
  refine keys_at hl fun j v e => ?_
  obtain ⟨q, x, e1, e2⟩ := hacc.2 j v (by rw [← Array.getElem?_toList]; exact e)
  exact ⟨q, x, e1, e2⟩
theorem Coll.dT {H : Hp} {a : Addr} {kvs : List (List Key × V)} (h : Rd H a (.dT kvs)) : Coll X H a (fun xs => ∃ bs, IsKeys H kvs bs ∧ xs = bs.map V.ref) := by
  intro pins s σ A E R I hh k
  obtain ⟨z, hs, ks, pr, o, es, ep, ho, hx, hdt, he, hn⟩ := (show ObjOk X.prog X.w H s.heap a (.dT kvs) from h.ok I.hok)
  have l1 : es.size = ks.length := size_of_entries he
  have l2 : kvs.length = ks.length := Paired.length pr
  refine PySem.W.kdu_collect (kdl_raw hs hx hdt) hh ho (by omega) fun h' tk acc' kp it => ?_
  have ea : acc'.toList = (ks.map fun x => x.2.1).map Value.ref := by
    have hl : acc'.toList.length = ks.length := by rw [Array.length_toList, it.1]; exact l1
    rw [List.map_map]
    apply List.ext_getElem?
    intro j
    rw [List.getElem?_map]
    cases hj : acc'.toList[j]? with
    | none =>
      have h1 := List.getElem?_eq_none_iff.mp hj
      rw [List.getElem?_eq_none (by omega)]
      all_goals rfl
    | some v =>
      obtain ⟨en, hen, hv⟩ := it.2 j v (by rw [← Array.getElem?_toList]; exact hj)
      have qe := entry_at he j
      rw [hen] at qe
      cases hb : ks[j]? with
      | none =>
        rw [hb] at qe
        exact nomatch (show some en = none from qe)
      | some b =>
        rw [hb] at qe
        have e2 : en = entryOfKey (tupleKind (mixKind X.prog X.w)) b := Option.some.inj qe
        rw [hv, e2]
        all_goals rfl
  refine k { s with heap := h', toks := tk } _ acc'.toList (I.kept kp) ⟨_, isKeys_of pr, rfl⟩ ?_ ?_
  · rw [ea]; exact vals_refs _
  · rw [ea, List.length_map, List.length_map]; omega
/-- data that < compares -/
structure SrtOk (ds : List PyData) : Prop where
  al : PySem.W.AllAlike ds
  so : PySem.W.Sortable ds
  dp : ∀ d, d ∈ ds → d.depth ≤ 60
theorem each_vals {ps : List (V × PyData)} : ∀ {acc : List Value}, Vals (ps.map (·.1)) acc → PySem.W.EachIs (fun u (p : V × PyData) => RelV p.1 u) acc ps := by
  induction ps with
  | nil => intro acc h; cases h; exact .nil
  | cons p ps ih => intro acc h; cases h with | cons h1 h2 => exact .cons h1 (ih h2)
theorem vals_each {ps : List (V × PyData)} : ∀ {acc : List Value}, PySem.W.EachIs (fun u (p : V × PyData) => RelV p.1 u) acc ps → Vals (ps.map (·.1)) acc := by
  induction ps with
  | nil => intro acc h; cases h; exact .nil
  | cons p ps ih => intro acc h; cases h with | cons h1 h2 => exact .cons h1 (ih h2)
theorem each_reads {pins : List (Addr × Obj)} {s : Shared} {σ : L2.St} {H : Hp} (I : Inv X pins σ H s) {ps : List (V × PyData)} : ∀ {acc : List Value}, Vals (ps.map (·.1)) acc → (∀ p ∈ ps, Dp X.K H p.1 p.2) → PySem.W.EachIs (fun v (p : V × PyData) => ∃ as, Reads s.heap v p.2 as) acc ps := by
  induction ps with
  | nil => intro acc h _; cases h; exact .nil
  | cons p ps ih =>
    intro acc h hd
    cases h with
    | cons h1 h2 => exact .cons (Dp.reads I p.2 _ _ (hd p List.mem_cons_self) h1) (ih h2 fun q hq => hd q (List.mem_cons_of_mem _ hq))
def rSortedA (X : Cx) : List V → Hp → VK → Prop := fun vs H Q => ∃ (a : Addr) (P : List V → Prop), vs = [.ref a] ∧ Coll X H a P ∧ ∀ xs, P xs → ∃ ps : List (V × PyData), xs = ps.map (·.1) ∧ (∀ p ∈ ps, Dp X.K H p.1 p.2) ∧ SrtOk (ps.map (·.2)) ∧
  ∀ q, H q = none → Q (.ref q) (upd H q (.lst ((ps.mergeSort (PySem.W.dataLe false (·.2))).map (·.1))))
theorem call_sortedA (hc : X.calm = true) (hu : X.A.units + 65 < cLine) : CallR X (.builtin "sorted") (rSortedA X) := by
  intro pins s σ H vs us Q I r h
  obtain ⟨a, P, rfl, hcl, q⟩ := h
  obtain ⟨u, rfl, ru⟩ := Vals.one r
  cases ru
  refine Calls.call_function_entry PyProof.Rows.kind_sorted PyProof.Rows.plain_sorted PyProof.Rows.entry_sorted (PyProof.Rows.args_sorted1 _) ?_
  unfold Builtin.«sorted»
  refine wpAny_bind (m := checkCount "sorted" 1 1 _) (wpAny_pure ?_)
  refine wpAny_bind (hcl pins s σ X.A.in1 _ _ I (I.ok.hd hc) fun s' xs acc I1 hP rv hz => ?_)
  obtain ⟨ps, rfl, hd, so, q⟩ := q xs hP
  refine wpAny_bind (wpAny_newList ?_ hz)
  have hoL : (s'.heap.push (seqObj "list" acc.toArray 0)).get? s'.heap.objs.size = some (seqObj "list" acc.toArray 0) := Heap.get?_push_size _ rfl
  show wpAny _ _ _ _ _ { s' with heap := s'.heap.push (seqObj "list" acc.toArray 0) }
  have er := each_reads I1 rv hd
  have er' : PySem.W.EachIs (fun v (p : V × PyData) => ∃ as, Reads (PySem.W.sortingHeap (s'.heap.push (seqObj "list" acc.toArray 0)) s'.heap.objs.size acc) v p.2 as) acc ps := er.mono fun v p ⟨as, rd⟩ => ⟨as, PyProof.Rows.Reads.keeps (fun b o e => PySem.W.sortingHeap_old (Nat.ne_of_lt (Heap.lt_size e)) (Heap.get?_push_of_some _ e)) rd⟩
  have er2 : PySem.W.EachIs (fun v d => ∃ as, Reads (PySem.W.sortingHeap (s'.heap.push (seqObj "list" acc.toArray 0)) s'.heap.objs.size acc) v d as) acc (ps.map (·.2)) := PySem.W.each_map (R := fun v d => ∃ as, Reads (PySem.W.sortingHeap (s'.heap.push (seqObj "list" acc.toArray 0)) s'.heap.objs.size acc) v d as) (fun p : V × PyData => p.2) er'
  refine wpAny_bind (wpAny_holding (wpAny_call_entry PyProof.Rows.slot_list_sort ⟨_, hoL, rfl⟩ PyProof.Rows.entry_list_sort
    (PySem.W.list_sort_vals (s := { s' with heap := s'.heap.push (seqObj "list" acc.toArray 0) }) hoL (PySem.W.SortsAt.data (s := { s' with heap := PySem.W.sortingHeap (s'.heap.push (seqObj "list" acc.toArray 0)) s'.heap.objs.size acc }) er2 so.al so.so (fun d hd => by have := so.dp d hd; show X.A.units + 1 + 1 + d.depth < cLine; omega)) hz ⟨_, rfl, ?_⟩)
    (PyProof.Rows.args_list_sort _)))
  obtain ⟨e', he'⟩ := PyProof.Rows.sortedHeap_at (vs := acc) (out := (PySem.W.sortVals (PySem.W.dataKind (PySem.W.sortingHeap (s'.heap.push (seqObj "list" acc.toArray 0)) s'.heap.objs.size acc) (ps.map (·.2))) false acc acc).toArray) hoL
  have eo := PySem.W.sortVals_data (R := fun u (p : V × PyData) => RelV p.1 u) (enc := fun p : V × PyData => p.2) false (each_vals rv) er' so.al
  have rv' := vals_each eo
  have hlen : ((ps.mergeSort (PySem.W.dataLe false fun p : V × PyData => p.2)).map (·.1)).length ≤ sizeLine := by
    rw [List.length_map, List.length_mergeSort, ← List.length_map (f := fun p : V × PyData => p.1), rv.length]; exact hz
  refine wpAny_pure ⟨_, rfl, .ref s'.heap.objs.size, upd H s'.heap.objs.size (.lst ((ps.mergeSort (PySem.W.dataLe false fun p : V × PyData => p.2)).map (·.1))), I1.laid (t' := s'.toks) (fun b u e => ?_) (Nat.le_refl _)
    (show ObjOk X.prog X.w _ _ _ (.lst _) from ⟨hlen, _, e', rv', he'⟩), rfl, q _ (I1.hok.fresh (Nat.le_refl _))⟩
  have hb : b < s'.heap.objs.size := Heap.lt_size e
  rw [PyProof.Rows.sortedHeap_old (Nat.ne_of_lt hb) (by rw [size_push']; exact Nat.lt_succ_of_lt hb)]
  exact Heap.get?_push_of_some _ e
end
/-! .. by content -/
def pyD (d : D) : PyData := d.py.getD .none
def leD (x y : D) : Bool := PySem.W.dataLe false pyD x y
def isTN (d : D) : Bool := match pyD d with
  | .tuple (_ :: _) => true
  | _ => false
def isOth (d : D) : Bool := match pyD d with
  | .none => false
  | .tuple _ => false
  | _ => true
def srtOk (ds : List D) : Bool := ds.all (fun d => d.py.isSome && decide ((pyD d).depth ≤ 60)) && ds.all (fun a => ds.all fun b => PySem.W.alike (pyD a) (pyD b)) && (ds.all isTN || ds.all isOth)
def sortD (ds : List D) : List D := ds.mergeSort leD
def dSorted : D → PR
  | .lst ds => if srtOk ds = true then .nw (.lst (sortD ds)) else .no
  | .clst ds => if srtOk ds = true then .nw (.lst (sortD ds)) else .no
  | .tup ds => if srtOk ds = true then .nw (.lst (sortD ds)) else .no
  | .dct ps => if srtOk (ps.map (·.1)) = true then .nw (.lst (sortD (ps.map (·.1)))) else .no
  | .dcu ps => if srtOk (ps.map (·.1)) = true then .nw (.lst (sortD (ps.map (·.1)))) else .no
  | _ => .no
theorem srtOk_ok {ds : List D} (h : srtOk ds = true) : SrtOk (ds.map pyD) := by
  simp only [srtOk, Bool.and_eq_true, Bool.or_eq_true, List.all_eq_true, decide_eq_true_eq] at h
  obtain ⟨⟨h1, h2⟩, h3⟩ := h
  refine ⟨fun d hd e he => ?_, ?_, fun d hd => ?_⟩
  · obtain ⟨a, ha, rfl⟩ := List.mem_map.mp hd
    obtain ⟨b, hb, rfl⟩ := List.mem_map.mp he
    exact h2 a ha b hb
  · rcases h3 with h3 | h3
    · refine .inl fun d hd => ?_
      obtain ⟨a, ha, rfl⟩ := List.mem_map.mp hd
      have := h3 a ha
      unfold isTN at this
      split at this
      · rename_i x r e; exact ⟨_, _, e⟩
      · cases this
    · refine .inr fun d hd => ?_
      obtain ⟨a, ha, rfl⟩ := List.mem_map.mp hd
      have := h3 a ha
      unfold isOth at this
      split at this
      · cases this
      · cases this
      · rename_i n1 n2; exact ⟨n1, n2⟩
  · obtain ⟨a, ha, rfl⟩ := List.mem_map.mp hd
    exact (h1 a ha).2
section
variable {X : Cx}
theorem den_py {W : Wd} {H : Hp} : ∀ {xs : List V} {ds : List D}, DenL X.K W H xs ds → (∀ d ∈ ds, d.py.isSome = true) → ∃ ps : List (V × D), xs = ps.map (·.1) ∧ ds = ps.map (·.2) ∧ ∀ p ∈ ps, Den X.K W H p.1 p.2 ∧ Dp X.K H p.1 (pyD p.2)
  | _, _, .nil, _ => ⟨[], rfl, rfl, by simp⟩
  | _, _, .cons (v := v) (d := d) h1 h2, hp => by
    obtain ⟨ps, e1, e2, h⟩ := den_py h2 fun d hd => hp d (List.mem_cons_of_mem _ hd)
    obtain ⟨p, e⟩ := Option.isSome_iff_exists.mp (hp d List.mem_cons_self)
    refine ⟨(v, d) :: ps, by rw [e1]; rfl, by rw [e2]; rfl, fun q hq => ?_⟩
    rcases List.mem_cons.mp hq with rfl | hq
    · exact ⟨h1, by
        have : pyD d = p := by unfold pyD; rw [e]; rfl
        show Dp X.K H v (pyD d)
        rw [this]; exact h1.dp d p e⟩
    · exact h q hq
theorem denL_pairs {W : Wd} {H : Hp} : ∀ {ps : List (V × D)}, (∀ p ∈ ps, Den X.K W H p.1 p.2) → DenL X.K W H (ps.map (·.1)) (ps.map (·.2))
  | [], _ => .nil
  | p :: ps, h => .cons (h p List.mem_cons_self) (denL_pairs fun q hq => h q (List.mem_cons_of_mem _ hq))
theorem p1_sorted : P1 X.K (rSortedA X) dSorted := by
  have core : ∀ {W : Wd} {H : Hp} {Q : VK} {a : Addr} {P : List V → Prop} {ds : List D}, Coll X H a P → (∀ xs, P xs → DenL X.K W H xs ds) → Out X.K W H (if srtOk ds = true then .nw (.lst (sortD ds)) else .no) Q → rSortedA X [.ref a] H Q := by
    intro W H Q a P ds hcl hden o
    obtain ⟨hs, o⟩ := o.ite
    have so := srtOk_ok hs
    have hpy : ∀ d ∈ ds, d.py.isSome = true := by
      simp only [srtOk, Bool.and_eq_true, List.all_eq_true] at hs
      exact fun d hd => (hs.1.1 d hd).1
    refine ⟨a, P, rfl, hcl, fun xs hP => ?_⟩
    obtain ⟨ps, rfl, rfl, h⟩ := den_py (hden xs hP) hpy
    refine ⟨ps.map fun p => (p.1, pyD p.2), by rw [List.map_map]; rfl, fun q hq => ?_, ?_, fun q hq => ?_⟩
    · obtain ⟨p, hp, rfl⟩ := List.mem_map.mp hq
      exact (h p hp).2
    · rw [List.map_map]
      rw [List.map_map] at so
      exact so
    · have e1 : ((ps.map fun p => (p.1, pyD p.2)).mergeSort (PySem.W.dataLe false (·.2))) = (ps.mergeSort fun a b => leD a.2 b.2).map fun p => (p.1, pyD p.2) := (List.map_mergeSort (r := fun a b : V × D => leD a.2 b.2) (f := fun p : V × D => (p.1, pyD p.2)) fun a _ b _ => rfl).symm
      have e2 : sortD (ps.map (·.2)) = (ps.mergeSort fun a b => leD a.2 b.2).map (·.2) := (List.map_mergeSort (r := fun a b : V × D => leD a.2 b.2) (f := fun p : V × D => p.2) fun a _ b _ => rfl).symm
      rw [e1, List.map_map]
      rw [e2] at o
      have h' : ∀ p ∈ ps.mergeSort (fun a b => leD a.2 b.2), Den X.K W H p.1 p.2 := fun p hp => (h p (List.mem_mergeSort.mp hp)).1
      exact o _ _ (.lst hq (denL_pairs h'))
  intro v d W H Q c o
  unfold dSorted at o
  split at o
  · obtain ⟨a, xs, rfl, h1, h2⟩ := c.lst
    exact core (Coll.list h1) (fun _ e => by rw [e]; exact h2) o
  · obtain ⟨a, xs, rfl, h1, h2⟩ := c.clst
    exact core (Coll.list h1.sq) (fun _ e => by rw [e]; exact h2) o
  · obtain ⟨a, xs, rfl, h1, h2⟩ := c.tup
    exact core (Coll.tup h1) (fun _ e => by rw [e]; exact h2) o
  · obtain ⟨a, kvs, rfl, h1, h2⟩ := c.dct
    exact core (Coll.dK h1) (fun _ e => by rw [e]; exact h2.keys) o
  · obtain ⟨a, kvs, rfl, h1, h2⟩ := c.dcu
    exact core (Coll.dT h1) (fun _ ⟨bs, hb, e⟩ => by rw [e]; exact h2.keys hb) o
  · exact False.elim o
end
end Y
namespace Y
variable [TabC]
open PySem L2

/-! ### max, min of two texts -/
section
open PySem.Spec PyProof.Rows
section
variable {prog : Program} {w : World} {A : Around} {E : Value → Shared → Prop} {s : Shared}
def twoOf (a b : Str) (i : Nat) : Str := if i = 0 then a else b
theorem two_at {x y : Str} {t u : Tok} {i : Nat} {v : Value} (h : (#[Value.str x t, Value.str y u] : Array Value)[i]? = some v) : ∃ z, v = .str (twoOf x y i) z := by
  match i, h with
  | 0, h => cases h; exact ⟨t, rfl⟩
  | 1, h => cases h; exact ⟨u, rfl⟩
  | i + 2, h => simp at h
/-- the walk over the two, whatever compares them -/
theorem two_walk {x y : Str} {t u : Tok} {op : CmpOp} {bt : Nat → Nat → Bool} {Q : Value → Shared → Prop} (hh : A.handled = none) (hc : CmpOf prog w A.in1 op (fun i v => (#[Value.str x t, Value.str y u] : Array Value)[i]? = some v) bt)
    (k : ∀ h' tk, (∀ c o, s.heap.get? c = some o → h'.get? c = some o) → Q (if bt 1 0 = true then .str y u else .str x t) { s with heap := h', toks := tk }) :
    wpAny (model prog w) A.in1 (pyIter (.ref s.heap.objs.size)) (fun it s₂ => ∃ I fp wr n P St bt, it = .ref I ∧ Walks prog w A.in1 I fp wr n P St ∧ St 0 s₂.heap ∧ (∀ b ∈ fp, b < s₂.heap.objs.size) ∧ 0 < n ∧ CmpOf prog w A.in1 op P bt ∧
      ∀ v h' tk, P (argBest bt (n - 1)) v → (∀ b o, b ∉ wr → s₂.heap.get? b = some o → h'.get? b = some o) → Q v { s₂ with heap := h', toks := tk }) E
      { s with heap := s.heap.push { cls := .type "tuple", data := .seq #[.str x t, .str y u] } } := by
  have hsz : (s.heap.push { cls := .type "tuple", data := .seq #[Value.str x t, Value.str y u] }).objs.size = s.heap.objs.size + 1 := Heap.size_push ..
  have hT : (s.heap.push { cls := .type "tuple", data := .seq #[Value.str x t, Value.str y u] }).IsTuple s.heap.objs.size #[.str x t, .str y u] := ⟨_, Heap.get?_push_size _ rfl, rfl, _, rfl⟩
  have hne : s.heap.objs.size ≠ (s.heap.push { cls := .type "tuple", data := .seq #[Value.str x t, Value.str y u] }).objs.size := by rw [hsz]; exact Nat.ne_of_lt (Nat.lt_succ_self _)
  refine wpAny_pyIter_tuple hT ?_
  refine ⟨_, _, _, _, _, _, bt, rfl, Walks.tuple (A := A.in1) hh _ s.heap.objs.size hne #[.str x t, .str y u], ⟨⟨_, Heap.get?_push_size _ rfl, rfl, rfl⟩, hT.push _⟩, fun c hm => ?_, Nat.zero_lt_two, hc, fun v h' tk hP hk => ?_⟩
  · show c < ((s.heap.push _).push _).objs.size
    rw [Heap.size_push, hsz]
    simp only [List.mem_cons, List.not_mem_nil, or_false] at hm
    rcases hm with e | e
    · rw [e, hsz]; exact Nat.lt_succ_self _
    · rw [e]; exact Nat.lt_succ_of_lt (Nat.lt_succ_self _)
  · have old : ∀ c o, s.heap.get? c = some o → h'.get? c = some o := fun c o e => by
      have lt := Heap.lt_size e
      refine hk c o (fun hm => ?_) (Heap.get?_push_of_some _ (Heap.get?_push_of_some _ e))
      have e1 := List.mem_singleton.mp hm
      rw [e1, hsz] at lt
      exact absurd lt (Nat.not_lt_of_lt (Nat.lt_succ_self _))
    have ev : v = if bt 1 0 = true then .str y u else .str x t := by
      have hP : (#[Value.str x t, Value.str y u] : Array Value)[argBest bt 1]? = some v := hP
      by_cases hb : bt 1 0 = true
      · have e : argBest bt 1 = 1 := by simp [argBest, hb]
        rw [e] at hP
        rw [if_pos hb]
        exact (Option.some.inj hP).symm
      · have e : argBest bt 1 = 0 := by simp [argBest, hb]
        rw [e] at hP
        rw [if_neg hb]
        exact (Option.some.inj hP).symm
    rw [ev]
    exact k h' tk old
end
variable {X : Cx}
theorem call_max2S (hc : X.calm = true) (hu : X.A.units + 65 < cLine) : CallR X (.builtin "max") (fun xs H Q => ∃ i j : Str, xs = [.str i, .str j] ∧ Q (.str (if i.cps.toList < j.cps.toList then j else i)) H) := by
  intro pins s σ H xs us Q I r h
  obtain ⟨i, j, rfl, q⟩ := h
  obtain ⟨a, b, rfl, ⟨t, rfl⟩, ⟨u, rfl⟩⟩ := vals2 r
  refine call_max_two (two_walk (op := .Gt) (bt := fun m n => decide ((twoOf i j n).cps.toList < (twoOf i j m).cps.toList)) (I.ok.hd hc) (fun m n v1 v2 s' Q' E' h1 h2 hq => ?_) fun h' tk k => ?_)
  · obtain ⟨z1, rfl⟩ := two_at h1
    obtain ⟨z2, rfl⟩ := two_at h2
    have := PySem.W.rcGt_alike (.str (twoOf i j m)) (.str (twoOf i j n)) X.A.in1 s' _ _ _ _ (Reads.str _ z1) (Reads.str _ z2) (by simp [PySem.W.alike]) (by simp) (by show X.A.units + 1 + min 0 0 < cLine; omega) X.prog X.w E' Q'
    rw [PySem.W.dataLt_str] at this
    exact this hq
  · refine ⟨_, H, I.kept k, ?_, q⟩
    show RelV (.str _) (if decide ((twoOf i j 0).cps.toList < (twoOf i j 1).cps.toList) = true then _ else _)
    by_cases hj : i.cps.toList < j.cps.toList
    · rw [if_pos hj, if_pos (by simpa [twoOf] using hj)]; exact ⟨_, rfl⟩
    · rw [if_neg hj, if_neg (by simpa [twoOf] using hj)]; exact ⟨_, rfl⟩
theorem call_min2S (hc : X.calm = true) (hu : X.A.units + 65 < cLine) : CallR X (.builtin "min") (fun xs H Q => ∃ i j : Str, xs = [.str i, .str j] ∧ Q (.str (if j.cps.toList < i.cps.toList then j else i)) H) := by
  intro pins s σ H xs us Q I r h
  obtain ⟨i, j, rfl, q⟩ := h
  obtain ⟨a, b, rfl, ⟨t, rfl⟩, ⟨u, rfl⟩⟩ := vals2 r
  refine call_min_two (two_walk (op := .Lt) (bt := fun m n => decide ((twoOf i j m).cps.toList < (twoOf i j n).cps.toList)) (I.ok.hd hc) (fun m n v1 v2 s' Q' E' h1 h2 hq => ?_) fun h' tk k => ?_)
  · obtain ⟨z1, rfl⟩ := two_at h1
    obtain ⟨z2, rfl⟩ := two_at h2
    have := PySem.W.rcLt_alike (.str (twoOf i j m)) (.str (twoOf i j n)) X.A.in1 s' _ _ _ _ (Reads.str _ z1) (Reads.str _ z2) (by simp [PySem.W.alike]) (by simp) (by show X.A.units + 1 + min 0 0 < cLine; omega) X.prog X.w E' Q'
    rw [PySem.W.dataLt_str] at this
    exact this hq
  · refine ⟨_, H, I.kept k, ?_, q⟩
    show RelV (.str _) (if decide ((twoOf i j 1).cps.toList < (twoOf i j 0).cps.toList) = true then _ else _)
    by_cases hj : j.cps.toList < i.cps.toList
    · rw [if_pos hj, if_pos (by simpa [twoOf] using hj)]; exact ⟨_, rfl⟩
    · rw [if_neg hj, if_neg (by simpa [twoOf] using hj)]; exact ⟨_, rfl⟩
end
/-- of two ints, of two texts -/
def dMax2A : D → D → PR
  | .int i, .int j => .sh (.int (if j > i then j else i))
  | .str i, .str j => .sh (.str (if i.cps.toList < j.cps.toList then j else i))
  | _, _ => .no
def dMin2A : D → D → PR
  | .int i, .int j => .sh (.int (if j < i then j else i))
  | .str i, .str j => .sh (.str (if j.cps.toList < i.cps.toList then j else i))
  | _, _ => .no
section
variable {K : PySem.W.Frag}
theorem p2_maxA : P2c K (fun xs H Q => (∃ i j, xs = [.int i, .int j] ∧ Q (.int (if j > i then j else i)) H) ∨ ∃ i j : Str, xs = [.str i, .str j] ∧ Q (.str (if i.cps.toList < j.cps.toList then j else i)) H) dMax2A := by
  intro v u d e W H Q c1 c2 o
  unfold dMax2A at o
  split at o
  · cases c1.int; cases c2.int; exact .inl ⟨_, _, rfl, o.int⟩
  · cases c1.str; cases c2.str; exact .inr ⟨_, _, rfl, o.str⟩
  · exact False.elim o
theorem p2_minA : P2c K (fun xs H Q => (∃ i j, xs = [.int i, .int j] ∧ Q (.int (if j < i then j else i)) H) ∨ ∃ i j : Str, xs = [.str i, .str j] ∧ Q (.str (if j.cps.toList < i.cps.toList then j else i)) H) dMin2A := by
  intro v u d e W H Q c1 c2 o
  unfold dMin2A at o
  split at o
  · cases c1.int; cases c2.int; exact .inl ⟨_, _, rfl, o.int⟩
  · cases c1.str; cases c2.str; exact .inr ⟨_, _, rfl, o.str⟩
  · exact False.elim o
end

/-! ### tuple(xs) of its own kind: never anything else -/
section
open PySem.Spec PyProof.Rows
variable {X : Cx}
def rTupFz (K : PySem.W.Frag) : List V → Hp → VK → Prop := fun xs H Q => ∃ p ys, xs = [.ref p] ∧ SqL K H p ys ∧ ∀ (l : Addr) (o : Obj), H l = none → o.cls = .type "tuple" → o.dict = none → Q (.ref l) (upd H l (.frz o (.tup ys)))
theorem call_tuple_fz : CallR X (.type "tuple") (rTupFz X.K) := by
  intro pins s σ H xs us Q I r h
  obtain ⟨p, ys, rfl, hs, q⟩ := h
  obtain ⟨its, r1, pl, hz⟩ := I.list hs
  obtain ⟨u, rfl, ru⟩ := Vals.one r
  cases ru
  have hl := r1.length
  refine call_tuple_list pl.isList (fun h' kp => ?_) (by simp only [List.size_toArray]; omega)
  have J : Inv X pins σ H { s with heap := h' } := I.kept (t' := s.toks) kp
  have J2 : Inv X pins σ (upd H h'.objs.size (.frz { cls := .type "tuple", data := .seq its.toArray } (.tup ys))) { s with heap := h'.push { cls := .type "tuple", data := .seq its.toArray } } :=
    J.laid (t' := s.toks) (fun _ _ e => Heap.get?_push_of_some _ e) (Nat.le_refl _) ⟨Heap.get?_push_size _ rfl, hz, its, r1, IsTup.new _ _⟩
  exact ⟨.ref h'.objs.size, _, J2, rfl, q _ _ (J.hok.fresh (Nat.le_refl _)) rfl rfl⟩
end
def dTupFz : D → PR
  | .lst ds => .sh (.ftup ds)
  | _ => .no
theorem Fr.allocF {W : Wd} {H : Hp} {p : Addr} {o : HO} {O : Addr → Prop} (hp : H p = none) : Fr W H O W (upd H p o) O := Fr.alloc hp
section
variable {X : Cx} {K : PySem.W.Frag} {W : Wd} {H : Hp} {σ : L2.St} {l : Lc} {g : Gs} {e a b : Expr} {pos p0 : Pos} {x : Str}
/-- .. where it stands -/
abbrev cTupFz (o : Opd) : Sm := cU dTupFz o
theorem se_tupFz {o : Opd} (bn : Bn X "tuple") (hs : Star1 X a) (ha : SO X a o) : SE X (.Call (.Name "tuple" p0) [a] [] pos) (cTupFz o) := by
  intro σ H W l g Q ok p
  have key : ∀ (m : D) (v : V) (l1 : Lc) (g1 : Gs) (W1 : Wd) (H1 : Hp), Ok X.K W1 l1 g1 σ H1 → Con X.K W1 H1 v m → EPost X.K W1 H1 σ l1 (lift (dTupFz m) l1 g1) Q → rTupFz X.K [v] H1 Q := by
    intro m v l1 g1 W1 H1 ok1 c p1
    unfold dTupFz at p1
    split at p1
    · obtain ⟨a, xs, rfl, h1, h2⟩ := c.lst
      refine ⟨a, xs, rfl, h1, fun q o hq hc hd => ?_⟩
      exact p1 _ W1 _ (ok1.alloc hq) (Fr.alloc hq) (.ftup upd_same hc hd (DenL.le (Le.alloc hq) _ h2))
    · exact False.elim p1
  cases ha with
  | ev ha =>
    refine tW.of (pe_callTy call_tuple_fz bn.gl bn.mg (by decide +kernel) (pa_1 pe_w hs) bn.nn bn.db (hs []) rfl) ?_
    refine ha.bindV ok p fun d fl l1 g1 v W1 H1 p1 ok1 fr1 le1 den => ?_
    exact key _ v l1 g1 W1 H1 ok1 (Con.of_den ok1.rep den) p1
  | @pk i ha =>
    refine tW.of (pe_callTy call_tuple_fz bn.gl bn.mg (by decide +kernel) (pa_1 ha hs) bn.nn bn.db (hs []) rfl) ?_
    simp only [cTupFz, cU] at p
    cases e1 : slotD l i with
    | none => rw [e1] at p; exact False.elim p
    | some x =>
      rw [e1] at p
      obtain ⟨v, ev⟩ := slot_some ok.loc e1
      exact ⟨v, ev, key _ v l g W H ok (Con.slot ok ev e1) p⟩
end
end Y
namespace Y
variable [TabC]
open PySem L2

/-! ### t[::-1] -/
section
open PySem.Spec PyProof.Rows
section
variable {prog : Program} {w : World} {A : Around} {E : Value → Shared → Prop} {s : Shared}
theorem sliceApplied_rev {sl : Addr} {vl vu vs : Value} {n : Nat} {Q : Int × Int × Nat → Shared → Prop} (hs : s.heap.IsSliceOf sl vl vu vs) (pl : IsPart vl none) (pu : IsPart vu none) (ps : IsPart vs (some (-1))) (h : Q ((n : Int) - 1, -1, n) s) :
    wpAny (model prog w) A (Builtin.Slice.sliceApplied (.ref sl) (pure (n : Int))) Q E s := by
  obtain ⟨ob, hob, hcl, hdt⟩ := hs
  unfold Builtin.Slice.sliceApplied Builtin.Slice.sliceFields
  refine wpAny_bind (wpAny_bind (wpAny_field hob hdt (x := vl) rfl (wpAny_bind (wpAny_field hob hdt (x := vu) rfl (wpAny_bind (wpAny_field hob hdt (x := vs) rfl (wpAny_pure ?_)))))))
  refine wpAny_bind (HT.slicePart_ ps ?_)
  show wpAny _ _ (if ((-1 : Int) == 0) = true then _ else _) _ _ s
  rw [if_neg (by decide)]
  refine wpAny_bind (HT.slicePart_ pl (wpAny_bind (HT.slicePart_ pu (wpAny_bind (wpAny_pure ?_)))))
  have e1 : Builtin.Slice.sliceAdjust none none (-1) (n : Int) = ((n : Int) - 1, -1) := rfl
  have e2 : Builtin.Slice.slicePlaces ((n : Int) - 1) (-1) (-1) = n := by
    unfold Builtin.Slice.slicePlaces
    simp only [show ¬ ((-1 : Int) > 0) by decide, if_false, show (- -1 : Int) = 1 by decide, Int.ediv_one]
    split <;> omega
  show wpAny _ _ (match Builtin.Slice.sliceAdjust none none (-1) (n : Int) with | (lo, hi) => pure (lo, (-1 : Int), Builtin.Slice.slicePlaces lo hi (-1))) _ _ s
  rw [e1]
  show wpAny _ _ (pure ((n : Int) - 1, (-1 : Int), Builtin.Slice.slicePlaces ((n : Int) - 1) (-1) (-1))) _ _ s
  rw [e2]
  exact wpAny_pure h
theorem fm_congr {α β : Type} {f g : α → Option β} : ∀ {l : List α}, (∀ k ∈ l, f k = g k) → l.filterMap f = l.filterMap g
  | [], _ => rfl
  | a :: l, h => by
    rw [List.filterMap_cons, List.filterMap_cons, h a List.mem_cons_self, fm_congr fun k hk => h k (List.mem_cons_of_mem _ hk)]
theorem pick_rev (xs : Array Value) : ((List.range xs.size).filterMap fun (k : Nat) => xs[(((xs.size : Int) - 1) + (k : Int) * (-1)).toNat]?).toArray = xs.toList.reverse.toArray := by
  have e : (List.range xs.size).filterMap (fun (k : Nat) => xs[(((xs.size : Int) - 1) + (k : Int) * (-1)).toNat]?) = (((List.range xs.size).map fun k => xs.size - 1 - k).filterMap (xs[·]?)) := by
    rw [List.filterMap_map]
    refine fm_congr fun k hk => ?_
    have := List.mem_range.mp hk
    show xs[_]? = xs[xs.size - 1 - k]?
    congr 1
    omega
  rw [e, PySem.W.krv_range, List.filterMap_reverse, PySem.W.krv_all]
theorem getItem_tuple_rev {t sl : Addr} {items : Array Value} {vl vu vs : Value} {Q : Value → Shared → Prop} (ht : IsTup s.heap t items) (hs : s.heap.IsSliceOf sl vl vu vs) (pl : IsPart vl none) (pu : IsPart vu none) (ps : IsPart vs (some (-1))) (hz : items.size ≤ sizeLine)
    (h : Q (.ref s.heap.objs.size) { s with heap := s.heap.push { cls := .type "tuple", data := .seq items.toList.reverse.toArray } }) : wpAny (model prog w) A (getItem (.ref t) (.ref sl)) Q E s := by
  have room : sizeOk (.seq items.toList.reverse.toArray) := by
    show items.toList.reverse.toArray.size ≤ sizeLine
    rw [List.size_toArray, List.length_reverse, Array.length_toList]; exact hz
  have ty : s.TypeIs (.ref sl) "slice" := let ⟨ob, hob, hcl, _⟩ := id hs; ⟨ob, hob, hcl⟩
  unfold getItem
  try with_reducible refine wpAny_holding ?_
  first | refine wpAny_bind (wpAny_pure ?_) | skip
  refine wpAny_bind (wpAny_sequenceKey ht.typeIs (by decide) (wpAny_bind (wpAny_callSpecial?_slot (name := Str.ofString "__getitem__") ht.typeIs PyProof.Rows.slot_tuple_getitem (wpAny_call_entry PyProof.Rows.slot_tuple_getitem ht.typeIs entry_tuple_getitem ?_ (args_tuple_getitem _ _)))))
  show wpAny _ _ (Builtin.Tuple.tupleItemsOf (.ref t) >>= _) _ _ s
  refine wpAny_bind (tupleItemsOf_ ht (wpAny_bind (wpAny_typeOf ty ?_)))
  rw [if_pos (by decide)]
  refine wpAny_bind (sliceApplied_rev hs pl pu ps ?_)
  show wpAny _ _ (if (((items.size : Int) - 1) == 0 && (-1 : Int) == 1 && items.size == items.size) = true then _ else _) _ _ s
  rw [if_neg (by simp), pick_rev]
  first
    | exact wpAny_bind (m := Builtin.Tuple.tupleExact _) (wpAny_newObj_type (wpAny_pure ⟨_, rfl, wpAny_pure h⟩) room)
    | exact wpAny_bind (m := Builtin.Tuple.tupleExact _) (wpAny_newObj_type (wpAny_bind (wpAny_pure (wpAny_pure ⟨_, rfl, wpAny_pure h⟩))) room)
    | exact wpAny_bind (wpAny_bind (m := Builtin.Tuple.tupleExact _) (wpAny_newObj_type (wpAny_pure (wpAny_pure ⟨_, rfl, wpAny_pure h⟩)) room))
    | exact wpAny_bind (wpAny_bind (m := Builtin.Tuple.tupleExact _) (wpAny_newObj_type (wpAny_pure ⟨_, rfl, wpAny_pure h⟩) room))
end
variable {X : Cx}
/-- a list or a tuple, turned about -/
def tRevA (K : PySem.W.Frag) (te : TE) : TE := fun σ H Q => te σ H fun x H1 => ∃ a xs, x = .ref a ∧ ((SqL K H1 a xs ∧ ∀ p, H1 p = none → Q (.ref p) (upd H1 p (.lst xs.reverse))) ∨ (SqT K H1 a xs ∧ ∀ p, H1 p = none → Q (.ref p) (upd H1 p (.tup xs.reverse))))
theorem pe_revA {e : Expr} {te : TE} {k : Nat} {p1 p2 p3 pos : Pos} (he : PE X e te) : PE X (.Subscript e (.Slice none none (some (.UnaryOp .USub (.Constant (.int 1) k p1) p2)) p3) pos) (tRevA X.K te) := by
  refine ⟨fun pins s σ H Q I h => ?_⟩
  have hst : PO X (some (.UnaryOp .USub (.Constant (.int 1) k p1) p2)) (tPart (tUn (rU fun i => .int (-i)) (tC (.int 1)))) := po_some (pe_un un_neg pe_int)
  refine Subscript_ (thn (he.run pins s σ H _ I h) fun v s1 ⟨x, H1, I1, r1, a, xs, ex, q⟩ => ?_)
  subst ex
  cases r1
  refine wpAny_Slice (thn (po_none.run pins s1 σ H1 (fun o H2 => o = none ∧ H2 = H1) I1 ⟨rfl, rfl⟩) fun vl s2 ⟨l, H2, I2, pl, el, e2⟩ => ?_)
  subst el e2
  refine thn (po_none.run pins s2 σ H2 (fun o H3 => o = none ∧ H3 = H2) I2 ⟨rfl, rfl⟩) fun vu s3 ⟨u, H3, I3, pu, eu, e3⟩ => ?_
  subst eu e3
  refine thn (hst.run pins s3 σ H3 (fun o H4 => o = some (-1) ∧ H4 = H3) I3 ⟨1, rfl, -1, rfl, rfl, rfl⟩) fun vs s4 ⟨o, H4, I4, ps, eo, e4⟩ => ?_
  subst eo e4
  have J : Inv X pins σ H4 { s4 with heap := s4.heap.push { cls := .type "slice", data := .fields #[vl, vu, vs] } } := I4.kept (t' := s4.toks) fun b ob q => Heap.get?_push_of_some _ q
  show wpAny (model X.prog X.w) X.A (subscriptTail e (.Slice none none (some (.UnaryOp .USub (.Constant (.int 1) k p1) p2)) p3) (.ref a) (.ref s4.heap.objs.size)) (EP X pins σ Q) X.xe { s4 with heap := s4.heap.push { cls := .type "slice", data := .fields #[vl, vu, vs] } }
  rcases q with ⟨hx, q⟩ | ⟨hx, q⟩
  · obtain ⟨its, r, ht, hz⟩ := J.list hx
    refine tail_any (ops := [.ref a, .ref s4.heap.objs.size]) ht.isList.typeIs (PySem.slot_list_getitem.lookup) ?_ (by with_unfolding_all rfl)
    refine wpAny_getItem_list_slice ht.isList (Heap.IsSliceOf.new _ vl vu vs) pl pu ps (by decide) ?_ (by rw [List.size_toArray, ← r.length]; exact hz)
    rw [PySem.W.krv_pick]
    exact ⟨.ref _, _, J.laid (t' := s4.toks) (o := .lst xs.reverse) (fun b ob q => Heap.get?_push_of_some _ q) (Nat.le_refl _) ⟨by rw [List.length_reverse]; exact hz, _, 0, r.reverse, Heap.get?_push_size _ rfl⟩, rfl, q _ (J.hok.fresh (Nat.le_refl _))⟩
  · obtain ⟨its, r, ht, hz⟩ := J.tuple hx
    refine tail_any (ops := [.ref a, .ref s4.heap.objs.size]) ht.typeIs PyProof.Rows.slot_tuple_getitem.lookup ?_ (by with_unfolding_all rfl)
    refine getItem_tuple_rev ht (Heap.IsSliceOf.new _ vl vu vs) pl pu ps (by rw [List.size_toArray, ← r.length]; exact hz) ?_
    exact ⟨.ref _, _, J.laid (t' := s4.toks) (o := .tup xs.reverse) (fun b ob q => Heap.get?_push_of_some _ q) (Nat.le_refl _) ⟨by rw [List.length_reverse]; exact hz, its.reverse, r.reverse, IsTup.new _ _⟩, rfl, q _ (J.hok.fresh (Nat.le_refl _))⟩
end
def dRev : D → PR
  | .lst ds => .nw (.lst ds.reverse)
  | .tup ds => .sh (.tup ds.reverse)
  | .ftup ds => .sh (.tup ds.reverse)
  | _ => .no
section
variable {X : Cx} {e : Expr} {pos p1 p2 p3 : Pos} {k : Nat}
theorem se_rev {o : Opd} (ha : SO X e o) : SE X (.Subscript e (.Slice none none (some (.UnaryOp .USub (.Constant (.int 1) k p1) p2)) p3) pos) (cU dRev o) := by
  intro σ H W l g Q ok p
  obtain ⟨t, pe, ht⟩ := su (R := fun x H1 => ∃ a xs, x = .ref a ∧ ((SqL X.K H1 a xs ∧ ∀ p, H1 p = none → Q (.ref p) (upd H1 p (.lst xs.reverse))) ∨ (SqT X.K H1 a xs ∧ ∀ p, H1 p = none → Q (.ref p) (upd H1 p (.tup xs.reverse))))) o ha ok p fun v d W1 H1 c o => by
    unfold dRev at o
    split at o
    · obtain ⟨a, xs, rfl, h1, h2⟩ := c.lst
      exact ⟨a, xs, rfl, .inl ⟨h1, fun q hq => o _ _ (.lst hq h2.reverse)⟩⟩
    · obtain ⟨a, xs, rfl, h1, h2⟩ := c.tup
      exact ⟨a, xs, rfl, .inr ⟨h1, fun q hq => o _ _ (.tup hq h2.reverse)⟩⟩
    · obtain ⟨a, xs, rfl, h1, h2⟩ := c.ftup
      exact ⟨a, xs, rfl, .inr ⟨h1, fun q hq => o _ _ (.tup hq h2.reverse)⟩⟩
    · exact False.elim o
  exact tW.of (pe_revA pe) ht
end

/-! ### methods -/
section
open PySem.Spec PyProof.Rows
variable {X : Cx}
def rExtR : V → List V → Hp → VK → Prop := fun x vs H Q => ∃ l b xs zs, x = .ref l ∧ vs = [.ref b] ∧ H l = some (.lst xs) ∧ Rd H b (.lst zs) ∧ xs.length + zs.length ≤ sizeLine ∧ Q .non (upd H l (.lst (xs ++ zs)))
theorem mt_extR : MtR X "list.extend" rExtR := by
  intro pins s σ H x vs v us Q I rx rv h
  obtain ⟨l, b, xs, zs, rfl, rfl, hl, hb, hz, q⟩ := h
  obtain ⟨u, rfl, ru⟩ := rv.one
  cases ru
  cases rx
  obtain ⟨z, its, n, r, hlen, e⟩ := I.lstM hl
  obtain ⟨z2, its2, n2, r2, e2⟩ := (show ObjOk X.prog X.w H s.heap b (.lst zs) from hb.ok I.hok)
  have k1 := r.length
  have k2 := r2.length
  have hsz : its.toArray.size + its2.toArray.size ≤ sizeLine := by rw [List.size_toArray, List.size_toArray]; omega
  have hno : ¬ (!its.toArray.isEmpty && Builtin.List.listTooLong (its.toArray.size + its2.toArray.size)) = true := by
    rw [notLongL hsz, Bool.and_false]; exact Bool.false_ne_true
  exact call_meets F.slot_list_extend ⟨_, e, rfl⟩ F.entry_list_extend (F.args_list_extend_2 _ _) (AutoSeq1.list_extend_list_list_0 l its.toArray n b its2.toArray n2 hno (by rw [List.size_toArray]; omega) (by omega))
    ⟨e, e2, .non, _, I.lset (its' := its ++ its2) hl e (by simp) (r.append r2) (by rw [List.length_append]; omega), rfl, q⟩
end
section
variable {X : Cx} {K : PySem.W.Frag}
def muExtend : Mu
  | .lst ds, [.lst es] => if ds.length + es.length ≤ sizeLine then some (.lst (ds ++ es), .non) else none
  | _, _ => none
theorem pmu_ext : PMu K rExtR muExtend where
  lst := fun d xs r h => by
    unfold muExtend at h
    split at h
    · rfl
    · cases h
  run := fun a vs xs ds es d' y W H Q h1 h2 h3 h4 k => by
    unfold muExtend at h4
    split at h4
    · rename_i ds' es' e1
      cases e1
      split at h4
      · rename_i hl
        cases h4
        cases h3 with
        | cons hx hn =>
          cases hn
          cases hx with
          | lst s1 s2 => exact ⟨a, _, xs, _, rfl, rfl, h1, s1.rd, by rw [h2.length, s2.length]; exact hl, k _ _ .non rfl (h2.append s2) .non⟩
      · cases h4
    · cases h4
def muInsert : Mu
  | .lst ds, [.int i, x] => if ds.length < sizeLine ∧ 0 ≤ i ∧ i < 2 ^ 63 then some (.lst (ds.take i.toNat ++ [x] ++ ds.drop i.toNat), .non) else none
  | _, _ => none
theorem pmu_insert : PMu K (fun x vs H Q => ∃ (l : Addr) (xs : List V) (i : Int) (y : V), x = .ref l ∧ vs = [.int i, y] ∧ H l = some (.lst xs) ∧ xs.length < sizeLine ∧ 0 ≤ i ∧ i < 2 ^ 63 ∧ Q .non (upd H l (.lst (xs.take i.toNat ++ [y] ++ xs.drop i.toNat)))) muInsert where
  lst := fun d xs r h => by
    unfold muInsert at h
    split at h
    · rfl
    · cases h
  run := fun a vs xs ds es d' y W H Q h1 h2 h3 h4 k => by
    unfold muInsert at h4
    split at h4
    · rename_i ds' i x e1
      cases e1
      split at h4
      · rename_i hl
        cases h4
        cases h3 with
        | cons hi hn =>
          cases hi
          cases hn with
          | cons hx hn =>
            cases hn
            exact ⟨a, xs, i, _, rfl, rfl, h1, by rw [h2.length]; exact hl.1, hl.2.1, hl.2.2, k _ _ .non rfl (((h2.take _).append (.cons hx .nil)).append (h2.drop _)) .non⟩
      · cases h4
    · cases h4
theorem DenL.eraseIdx {W : Wd} {H : Hp} : ∀ {xs : List V} {ds : List D} (i : Nat), DenL K W H xs ds → DenL K W H (xs.eraseIdx i) (ds.eraseIdx i)
  | _, _, _, .nil => .nil
  | _, _, 0, .cons _ t => t
  | _, _, i + 1, .cons a t => .cons a (DenL.eraseIdx i t)
def muPopAt : Mu
  | .lst ds, [.int i] => if -(2 ^ 63) ≤ i ∧ i < 2 ^ 63 then (match seqIndex? i ds.length with
    | some k => (match ds[k]? with
      | some x => some (.lst (ds.eraseIdx k), x)
      | none => none)
    | none => none) else none
  | _, _ => none
theorem pmu_popAt : PMu K rPopAt muPopAt where
  lst := fun d xs r h => by
    unfold muPopAt at h
    split at h
    · rfl
    · cases h
  run := fun a vs xs ds es d' y W H Q h1 h2 h3 h4 k => by
    unfold muPopAt at h4
    split at h4
    · rename_i ds' i e1
      cases e1
      split at h4
      · rename_i hl
        split at h4
        · rename_i j ej
          split at h4
          · rename_i x ex
            cases h4
            cases h3 with
            | cons hi hn =>
              cases hi
              cases hn
              obtain ⟨w, ew, hw⟩ := h2.get ex
              exact ⟨a, xs, i, j, w, rfl, rfl, h1, hl.1, hl.2, by rw [h2.length]; exact ej, ew, k _ _ w rfl (h2.eraseIdx j) hw⟩
          · cases h4
        · cases h4
      · cases h4
    · cases h4
def muClear : Mu
  | .lst _, [] => some (.lst [], .non)
  | _, _ => none
theorem pmu_clear : PMu K rClear muClear where
  lst := fun d xs r h => by
    unfold muClear at h
    split at h
    · rfl
    · cases h
  run := fun a vs xs ds es d' y W H Q h1 h2 h3 h4 k => by
    unfold muClear at h4
    split at h4
    · rename_i ds' e1
      cases e1
      cases h4
      cases h3
      exact ⟨a, xs, rfl, rfl, h1, k _ _ .non rfl .nil .non⟩
    · cases h4
end

/-! ### t.index(x) -/
section
open PySem.Spec PyProof.Rows
variable {X : Cx} {o e : Expr} {es : List Expr} {name : Str} {id : String} {apos cpos : Pos} {to : TE} {t : TA} {r : V → List V → Hp → VK → Prop}
def tBMF (r : V → List V → Hp → VK → Prop) (to : TE) (t : TA) : TE := fun σ H Q => to σ H fun x H1 => (∃ (a : Addr) (xs : List V) (ob : Obj), x = .ref a ∧ H1 a = some (.frz ob (.tup xs)) ∧ ob.cls = .type "tuple" ∧ ob.dict = none) ∧ t σ H1 fun xs H2 => r x xs H2 Q
theorem pe_bmF (slot : Slot "tuple" name id) (hty : typeOf (.builtin id) = pure (.type "method_descriptor")) (hm : MtR X id r) (ho : PE X o to) (ha : PA X (e :: es) t)
    (hbase : attributeBase o name X.env (eval o X.env) = eval o X.env)
    (hfew : ((backTo cpos (starEach (e :: es) X.env)).all (fun x => !x.1) && (backToKw cpos (keywordEach [] X.env)).all (fun x => x.1.isSome)
      && decide ((e :: es).length + ([] : List Keyword).length + (if ([] : List Keyword).isEmpty then 0 else 1) < 30)) = true)
    (hline : (apos.endLine == cpos.line) = true) (hs : starEach (e :: es) X.env = (false, eval e X.env) :: starEach es X.env) (hplain : (backTo cpos (starEach es X.env)).any (·.1) = false) :
    PE X (.Call (.Attribute o name apos) (e :: es) [] cpos) (tBMF r to t) := by
  refine ⟨fun pins s σ H Q I h => wpAny_Call_method_late hbase hfew hline rfl (thn (ho.run pins s σ H _ I h) fun v s1 ⟨x, H1, I1, r1, ⟨a, ys, ob, ex, h1, h2, h3⟩, q1⟩ => ?_)⟩
  subst ex
  cases r1
  have at' : s1.heap.get? a = some ob := (show ObjOk X.prog X.w H1 s1.heap a (.frz ob (.tup ys)) from I1.hok a _ h1).1
  have hA := ha.run cpos pins s1 σ H1 _ I1 q1
  refine ⟨"tuple", id, PySem.F.plainAttrs_tuple, slot, hty, ⟨ob, at', h2⟩, fun b eb => by cases eb; exact ⟨ob, at', h3⟩, ?_⟩
  rw [hs] at hA ⊢
  refine Calls.callWith_builtin (by show (false || (backTo cpos (starEach es X.env)).any (·.1)) = false; rw [hplain]; rfl) (Calls.evalArgs_plain (thn hA fun us s2 ⟨vs, H2, I2, r2, q2⟩ => ?_))
  exact hm pins s2 σ H2 (.ref a) vs (.ref a) us Q I2 rfl r2 q2
end
/-- the first place -/
def placeS (z : Str) : List Str → Option Nat
  | [] => none
  | y :: ys => if y = z then some 0 else (placeS z ys).map (· + 1)
theorem placeS_ok {z : Str} : ∀ {ys : List Str} {j : Nat}, placeS z ys = some j → ys[j]? = some z ∧ ∀ m, m < j → ys[m]? ≠ some z
  | [], j, e => by cases e
  | y :: ys, j, e => by
    simp only [placeS] at e
    split at e
    · rename_i h
      cases e
      exact ⟨by simp [h], fun m hm => absurd hm (Nat.not_lt_zero _)⟩
    · rename_i h
      rw [Option.map_eq_some_iff] at e
      obtain ⟨i, ei, rfl⟩ := e
      obtain ⟨h1, h2⟩ := placeS_ok ei
      refine ⟨by simpa using h1, fun m hm => ?_⟩
      cases m with
      | zero => simpa using h
      | succ m => simpa using h2 m (by omega)
def dIndex (z : D) (x : D) : PR := match z, x with
  | .ftup ds, .str z => (match strsOf ds with
    | some ys => (match placeS z ys with
      | some j => .sh (.int j)
      | none => .no)
    | none => .no)
  | _, _ => .no
/-- o.index(x), o handed over first -/
def isF : D → Bool
  | .ftup _ => true
  | _ => false
def dIndexL (z : D) (x : D) : PR := match z, x with
  | .lst ds, .str z => (match strsOf ds with
    | some ys => (match placeS z ys with
      | some j => .sh (.int j)
      | none => .no)
    | none => .no)
  | _, _ => .no
/-- a name's: a list is looked at behind the argument -/
def idxS (i : Nat) (m : Sm) : D → Sm
  | .lst _ => fun l g => (m l g).bind fun y _ l g => match slotD l i with
    | some x => lift (dIndexL x y) l g
    | none => .no
  | x => fun l g => if isF x = true then (m l g).bind fun y _ l g => lift (dIndex x y) l g else .no
def cIndex (o : Opd) (m : Sm) : Sm := match o with
  | .ev o => fun l g => (o l g).bind fun x _ l g => if isF x = true then (m l g).bind fun y _ l g => lift (dIndex x y) l g else .no
  | .pk i => fun l g => match slotD l i with
    | some x => idxS i m x l g
    | none => .no
section
variable {X : Cx} {K : PySem.W.Frag} {W : Wd} {H : Hp} {σ : L2.St} {l : Lc} {g : Gs} {e o : Expr} {apos pos : Pos}
theorem dIndex_ok {v u : V} {x y : D} {Q : VK} (c1 : Den K W H v x) (c2 : Den K W H u y) (o : Out K W H (dIndex x y) Q) :
    ∃ p, ∃ ys : List Str, ∃ z j, v = .ref p ∧ [u] = [.str z] ∧ SqT K H p (ys.map V.str) ∧ ys[j]? = some z ∧ (∀ m, m < j → ys[m]? ≠ some z) ∧ Q (.int (j : Nat)) H := by
  unfold dIndex at o
  split at o
  · split at o
    · rename_i ys ey
      split at o
      · rename_i j ej
        cases c2
        obtain ⟨a, xs, rfl, h1, h2⟩ := (Con.den c1).ftup
        rw [strs_den h2 ey] at h1
        obtain ⟨k1, k2⟩ := placeS_ok ej
        exact ⟨a, ys, _, j, rfl, rfl, h1, k1, k2, o.int⟩
      · exact False.elim o
    · exact False.elim o
  · exact False.elim o
theorem dIndexL_ok {v u : V} {x y : D} {Q : VK} (c1 : Con K W H v x) (c2 : Den K W H u y) (o : Out K W H (dIndexL x y) Q) : rIndex K v [u] H Q := by
  unfold dIndexL at o
  split at o
  · split at o
    · rename_i ys ey
      split at o
      · rename_i j ej
        cases c2
        obtain ⟨a, xs, rfl, h1, h2⟩ := c1.lst
        rw [strs_den h2 ey] at h1
        obtain ⟨k1, k2⟩ := placeS_ok ej
        refine ⟨a, ys.map V.str, _, j, V.str _, rfl, rfl, h1, rfl, ?_, by rw [List.getElem?_map, k1]; rfl, ?_, ?_, o.int⟩
        · rw [List.all_map]; exact List.all_eq_true.mpr fun _ _ => rfl
        · exact decide_eq_true rfl
        · intro m z' hm hz
          rw [List.getElem?_map, Option.map_eq_some_iff] at hz
          obtain ⟨q, hq, rfl⟩ := hz
          exact decide_eq_false fun e => k2 m hm (by rw [hq, e])
      · exact False.elim o
    · exact False.elim o
  · exact False.elim o
theorem isF_den {v : V} {x : D} (h : isF x = true) (c : Den K W H v x) : ∃ (a : Addr) (xs : List V) (ob : Obj), v = .ref a ∧ H a = some (.frz ob (.tup xs)) ∧ ob.cls = .type "tuple" ∧ ob.dict = none := by
  cases x with
  | ftup ds => cases c with | ftup h1 h2 h3 h4 => exact ⟨_, _, _, rfl, h1, h2, h3⟩
  | _ => cases h
theorem se_index {oo : Opd} {m : Sm} (mb : MBs X o "index" [e] apos pos) (hst : Star1 X e) (ho : SO X o oo) (he : SE X e m) : SE X (.Call (.Attribute o "index" apos) [e] [] pos) (cIndex oo m) := by
  intro σ H W l g Q ok p
  have core : ∀ (x : D) (v : V) (l1 : Lc) (g1 : Gs) (W1 : Wd) (H1 : Hp), Ok X.K W1 l1 g1 σ H1 → Den X.K W1 H1 v x → EPost X.K W1 H1 σ l1 (if isF x = true then (m l1 g1).bind fun y _ l g => lift (dIndex x y) l g else .no) Q →
      (∃ (a : Addr) (xs : List V) (ob : Obj), v = .ref a ∧ H1 a = some (.frz ob (.tup xs)) ∧ ob.cls = .type "tuple" ∧ ob.dict = none) ∧ tCons (tW X e) tNil σ H1 fun xs H2 => (∃ p, ∃ ys : List Str, ∃ z j, v = .ref p ∧ xs = [.str z] ∧ SqT X.K H2 p (ys.map V.str) ∧ ys[j]? = some z ∧ (∀ m, m < j → ys[m]? ≠ some z) ∧ Q (.int (j : Nat)) H2) := by
    intro x v l1 g1 W1 H1 ok1 den p1
    obtain ⟨hf, p1⟩ := p1.ite
    refine ⟨isF_den hf den, he.bindV ok1 p1 fun y fl l2 g2 u W2 H2 p2 ok2 fr2 le2 den2 => ?_⟩
    exact dIndex_ok (den.le le2) den2 (lift_out ok2 p2)
  cases ho with
  | ev ho =>
    refine tW.of (pe_bmF PySem.F.slot_tuple_index PySem.F.type_tuple_index mt_tup_index pe_w (pa_1 pe_w hst) mb.base mb.few mb.line (hst []) rfl) ?_
    refine ho.bindV ok p fun d fl l1 g1 v W1 H1 p1 ok1 fr1 le1 den => ?_
    exact core d v l1 g1 W1 H1 ok1 den p1
  | @pk i ho =>
    simp only [cIndex] at p
    cases e1 : slotD l i with
    | none => simp only [e1] at p; exact False.elim p
    | some x =>
      simp only [e1] at p
      obtain ⟨v, ev⟩ := slot_some ok.loc e1
      by_cases hL : ∃ ds, x = .lst ds
      · obtain ⟨ds, rfl⟩ := hL
        obtain ⟨a, xs, rfl, hq, -⟩ := (show Con X.K W H v (.lst ds) from Con.slot ok ev e1).lst
        refine tW.of (pe_bm PySem.F.plainAttrs_list PySem.F.slot_list_index PySem.F.type_list_index mt_index ho (pa_1 pe_w hst) mb.base mb.few mb.line (hst []) rfl) ⟨_, ev, .inl ⟨rfl, xs, hq⟩, ?_⟩
        refine he.bindV ok p fun y fl l2 g2 u W2 H2 p2 ok2 fr2 le2 den2 => ?_
        cases e2 : slotD l2 i with
        | none => simp only [e2] at p2; exact False.elim p2
        | some x2 =>
          simp only [e2] at p2
          obtain ⟨v2, ev2⟩ := slot_some ok2.loc e2
          rw [ev] at ev2
          cases ev2
          have c2 := Con.slot ok2 ev e2
          have hp := lift_out ok2 p2
          have hc : x2.cont g2 = x2 := by
            cases x2 with
            | ref n => exact False.elim hp
            | _ => rfl
          rw [hc] at c2
          exact dIndexL_ok c2 den2 hp
      have p : EPost X.K W H σ l (if isF x = true then (m l g).bind fun y _ l g => lift (dIndex x y) l g else .no) Q := by
        cases x with
        | lst ds => exact absurd ⟨ds, rfl⟩ hL
        | _ => exact p
      refine tW.of (pe_bmF PySem.F.slot_tuple_index PySem.F.type_tuple_index mt_tup_index ho (pa_1 pe_w hst) mb.base mb.few mb.line (hst []) rfl) ?_
      refine ⟨v, ev, ?_⟩
      have hf : isF x = true := p.ite.1
      have den : Den X.K W H v x := by
        cases x with
        | ftup ds =>
          have c := Con.slot ok ev e1
          obtain ⟨a, xs, ob, rfl, h1, h2, h3, h4⟩ := c.ftupS
          exact .ftup h1 h2 h3 h4
        | _ => cases hf
      exact core x v l g W H ok den p
end

/-! ### {} for keys that are tuples -/
def cDctT : Sm := fun l g => .ok (.dcu []) true l g
theorem se_dictT {X : Cx} {pos : Pos} : SE X (.Dict [] [] pos) cDctT := fun σ H W l g Q ok p => tW.of pe_dnewT fun p' hp => NewV.post ok (.dcu hp .nil) p
end Y
/-! a set made of a list or a tuple: the update's walk, by whatever is kept (J) -/
namespace Y
variable [TabC]
open PySem L2 PySem.Spec PyProof.Rows
section
variable {prog : Program} {w : World} {A : Around} {R : Result → Shared → Prop} {I S : Addr} {fp wr : List Addr} {G : Array GenState → Array GenState → Prop} {n : Nat} {P : Nat → Value → Prop} {St : Nat → Shared → Prop}
/-- what one add asks and gives -/
def AddStep (prog : Program) (w : World) (A : Around) (S : Addr) (n : Nat) (P : Nat → Value → Prop) (J : Nat → Heap → Prop) : Prop :=
  ∀ (i : Nat) (v : Value) (t : Shared) (E : Value → Shared → Prop) (Q : Bool → Shared → Prop), i < n → P i v → J i t.heap → (∀ h' tk b, t.toks ≤ tk → Heap.SameBut S t.heap h' → J (i + 1) h' → Q b { t with heap := h', toks := tk }) →
    wpAny (model prog w) A (setAdd S v) Q E t
theorem update_walk (W : WalksS prog w A.in1 I fp wr G n P St) (far : S ∉ fp) {J : Nat → Heap → Prop} (stay : ∀ i h h', J i h → (∀ b o, b ∉ wr → h.get? b = some o → h'.get? b = some o) → J i h') (step : AddStep prog w A.in1 S n P J) :
    ∀ (m i : Nat) (t : Shared), m + i = n → St i t → J i t.heap → (∀ t', Moved (S :: wr) G t t' → J n t'.heap → R (.ok (.ret .none)) t') → codeAny (model prog w) A (.builtin "set.update.loop" ⟨[.ref S, .ref I], []⟩) R t := by
  have up : ∀ b ∈ wr, b ∈ S :: wr := fun b hb => List.mem_cons_of_mem _ hb
  intro m
  induction m with
  | zero =>
    intro i t e st j fin
    obtain rfl : i = n := by omega
    refine codeAny_builtin F.entry_set_update_loop ?_
    rw [Around.under_plainId F.plain_set_update_loop _]
    show wpAny _ A.in1 (pyNext (.ref I) >>= _) _ _ t
    refine wpAny_bind (W.done t _ _ st fun t' mv => ?_)
    show wpAny _ A.in1 (ret Value.none) _ _ t'
    exact wpAny_pure (fin t' (mv.mono up) (stay _ _ _ j mv.heap))
  | succ m ih =>
    intro i t e st j fin
    have lt : i < n := by omega
    refine codeAny_builtin F.entry_set_update_loop ?_
    rw [Around.under_plainId F.plain_set_update_loop _]
    show wpAny _ A.in1 (pyNext (.ref I) >>= _) _ _ t
    refine wpAny_bind (W.item i t _ _ lt st fun v t' pv st' mv => ?_)
    show wpAny _ A.in1 (holding [v] (setAdd S v) >>= _) _ _ t'
    refine wpAny_bind (wpAny_holding (step i v t' _ _ lt pv (stay _ _ _ j mv.heap) fun h' tk b tl sb j' => ?_))
    refine wpAny_pure ⟨plainId_quiet F.plain_set_update_loop _, ih (i + 1) { t' with heap := h', toks := tk } (by omega) (W.frame (i + 1) t' _ _ st' tl fun c hc o q => ?_) j' fun t2 mv2 j2 => ?_⟩
    · rw [sb.2 c fun z => far (z ▸ hc)]; exact q
    · refine fin t2 (Moved.trans W.gtrans ((mv.mono up).then_heap tl fun c o hc q => ?_) mv2) j2
      rw [sb.2 c fun z => hc (z ▸ List.mem_cons_self)]; exact q
end
/-- a set just made -/
abbrev freshSet (w : World) : Obj := { cls := .type "set", dict := none, data := .set #[] 0 (.fresh 0 0 (!w.params.followText "set-order")) }
section
variable {prog : Program} {w : World} {A : Around} {E : Value → Shared → Prop} {s : Shared}
set_option maxHeartbeats 3200000 in
/-- set(l), l a list or a tuple -/
theorem call_set_of {l : Addr} {items : Array Value} {J : Nat → Heap → Prop} {Q : Value → Shared → Prop} (hh : A.handled = none) (hl : s.heap.IsList l items ∨ s.heap.IsTuple l items)
    (j0 : ∀ h', (∀ b o, s.heap.get? b = some o → h'.get? b = some o) → h'.get? s.heap.objs.size = some (freshSet w) → J 0 h')
    (stay : ∀ i h h', J i h → (∀ b o, b ≠ s.heap.objs.size + 1 → h.get? b = some o → h'.get? b = some o) → J i h')
    (step : ∀ A' : Around, A'.units ≤ A.units + 8 → A'.handled = none → AddStep prog w A' s.heap.objs.size items.size (fun i v => items[i]? = some v) J)
    (fin : ∀ h' tk, s.toks ≤ tk → (∀ b o, s.heap.get? b = some o → h'.get? b = some o) → J items.size h' → Q (.ref s.heap.objs.size) { s with heap := h', toks := tk }) :
    wpAny (model prog w) A (call (.type "set") [.ref l]) Q E s := by
  obtain ⟨c, tl, hmro⟩ := F.called_set.mro
  have hmade := F.called_set.made
  have hsub := F.called_set.sub
  refine wpAny_call (codeAny_of_tree ?_)
  show wpAny _ _ (callAny (.type "set") _) _ _ _
  refine wpAny_pure ⟨Code.quiet_builtin _ (by decide +kernel), codeAny_builtin F.entry_type_call ?_⟩
  rw [Around.under_plain (weight_type_call_type "set" [.ref l] []) rfl]
  have h1 := F.called_set.notType
  have h2 := F.called_set.canCreate
  have hct := F.typeCall_set_1 (.ref l)
  repeat (any_goals (first | assumption | wp_step))
  refine codeAny_mono (code_set_led1 (.ref l) (E := E) (Q₁ := fun o t => o = .ref s.heap.objs.size ∧ t = { s with heap := s.heap.push (freshSet w) }) ⟨rfl, rfl⟩) fun r t hr => ?_
  cases r with
  | error e => exact hr
  | ok fl => cases fl with
    | ret obj =>
      obtain ⟨rfl, rfl⟩ := hr
      have hS : (s.heap.push (freshSet w)).get? s.heap.objs.size = some (freshSet w) := Heap.get?_push_size _ rfl
      have hT : Shared.TypeIs { s with heap := s.heap.push (freshSet w) } (.ref s.heap.objs.size) "set" := ⟨_, hS, rfl⟩
      have hli := F.called_set.init.lookup
      have hbi := F.called_set.init.bind (.ref s.heap.objs.size)
      repeat (any_goals (first | assumption | wp_step))
      refine codeAny_mono (codeAny_call_builtin (R := wants (fun r t2 => r = .none ∧ ∃ h' tk, s.toks ≤ tk ∧ t2 = { s with heap := h', toks := tk } ∧ J items.size h' ∧ ∀ b o, s.heap.get? b = some o → h'.get? b = some o) E) F.called_set.init.plain F.entry_set_init (check_set_init_1 hT ?_)) fun r2 t2 hr2 => ?_
      · have key : ∀ {A1 : Around} {T : String} {R : Result → Shared → Prop} {fp : List Addr} {I : Addr} {St : Nat → Heap → Prop} (it : Obj), A1.in1.handled = none → A1.in1.units ≤ A.units + 8 → l < s.heap.objs.size → I = s.heap.objs.size + 1 → fp = [I, l] →
            (∀ (hne : l ≠ I), Walks prog w A1.in1 I fp [I] items.size (fun i v => items[i]? = some v) St) → (∀ h', h'.get? I = some it → (∀ o, s.heap.get? l = some o → h'.get? l = some o) → St 0 h') → it.isFreed = false →
            (∀ t', Moved (s.heap.objs.size :: [I]) (fun a b => b = a) { s with heap := (s.heap.push (freshSet w)).push it } t' → J items.size t'.heap → R (.ok (.ret .none)) t') →
            codeAny (model prog w) A1 (.builtin "set.update.loop" ⟨[.ref s.heap.objs.size, .ref I], []⟩) R { s with heap := (s.heap.push (freshSet w)).push it } := by
          intro A1 T R fp I St it hh1 hu1 hlt eI ef hW hSt hfr hR
          have hz : (s.heap.push (freshSet w)).objs.size = s.heap.objs.size + 1 := Heap.size_push ..
          have hne : l ≠ I := by rw [eI]; exact Nat.ne_of_lt (Nat.lt_succ_of_lt hlt)
          have g1 : ∀ b o, s.heap.get? b = some o → ((s.heap.push (freshSet w)).push it).get? b = some o := fun b o q => Heap.get?_push_of_some _ (Heap.get?_push_of_some _ q)
          refine update_walk (A := A1) ((hW hne).toS) (S := s.heap.objs.size) ?_ (J := J) (fun i h h' j k => stay i h h' j fun b o hb q => k b o (by rw [eI]; simpa using hb) q) (step A1.in1 hu1 hh1) items.size 0 _ rfl
            (hSt _ (by rw [eI, ← hz]; exact Heap.get?_push_size _ hfr) fun o q => g1 l o q) (j0 _ g1 (Heap.get?_push_of_some _ hS)) hR
          rw [ef, eI]
          simp only [List.mem_cons, List.not_mem_nil, or_false, not_or]
          exact ⟨Nat.ne_of_lt (Nat.lt_succ_self _), Nat.ne_of_gt hlt⟩
        rcases hl with hl | hl
        · obtain ⟨⟨ocls, odict, odata, oslots⟩, hol, hcl, nl, hdl⟩ := hl
          simp only at hcl hdl
          subst hcl; subst hdl
          have hlt : l < s.heap.objs.size := Heap.lt_size hol
          have hol' : (s.heap.push (freshSet w)).get? l = some { cls := .type "list", dict := odict, data := .seq items nl, slots := oslots } := Heap.get?_push_of_some _ hol
          have hsls := F.sub_list_set
          have hslf := F.sub_list_frozenset
          have hne : (Value.type "list" == Value.type "dict") = false := by decide
          have hl1 : (s.heap.push (freshSet w)).IsList l items := ⟨_, hol', rfl, nl, rfl⟩
          unfold Builtin.«set.__init__» noKeywords Builtin.Frozenset.updateFrom
          generalize hPI : pyIter = PI
          wp_walk
          subst hPI
          refine wpAny_pyIter_list hl1 ?_
          refine wpAny_bind (wpAny_runValue ?_)
          refine key (T := "list") (I := (s.heap.push (freshSet w)).objs.size) { cls := .type "list_iterator", data := .fields #[.ref l, .int 0 0] } (by simp [hh]) (by show A.units + 1 + 1 + 1 ≤ A.units + 8; omega) hlt (Heap.size_push ..) rfl (fun hne => Walks.list (by simp [hh]) _ l hne items)
            (fun h' hi ho => ⟨⟨_, hi, rfl, rfl⟩, ⟨_, ho _ hol, rfl, nl, rfl⟩⟩) rfl fun t' mv hj => ?_
          obtain ⟨h', g', d', tk', os'⟩ := t'
          have eg : g' = s.gens := mv.gens
          have ed : d' = s.drawn := mv.drawn
          have eo : os' = s.os := mv.os
          have et : s.toks ≤ tk' := mv.toks
          subst eg; subst ed; subst eo
          show wpAny _ _ _ _ _ _
          refine wpAny_pure ?_
          show wpAny _ _ (ret Value.none) _ _ _
          refine wpAny_pure ⟨rfl, h', tk', et, rfl, hj, fun b o q => ?_⟩
          have hb := Heap.lt_size q
          refine mv.heap b o ?_ (Heap.get?_push_of_some _ (Heap.get?_push_of_some _ q))
          simp only [List.mem_cons, List.not_mem_nil, or_false, not_or]
          exact ⟨Nat.ne_of_lt hb, by rw [Heap.size_push]; exact Nat.ne_of_lt (Nat.lt_succ_of_lt hb)⟩
        · obtain ⟨⟨ocls, odict, odata, oslots⟩, hol, hcl, nl, hdl⟩ := hl
          simp only at hcl hdl
          subst hcl; subst hdl
          have hlt : l < s.heap.objs.size := Heap.lt_size hol
          have hol' : (s.heap.push (freshSet w)).get? l = some { cls := .type "tuple", dict := odict, data := .seq items nl, slots := oslots } := Heap.get?_push_of_some _ hol
          have hsls := F.sub_tuple_set
          have hslf := F.sub_tuple_frozenset
          have hne : (Value.type "tuple" == Value.type "dict") = false := by decide
          have hl1 : (s.heap.push (freshSet w)).IsTuple l items := ⟨_, hol', rfl, nl, rfl⟩
          unfold Builtin.«set.__init__» noKeywords Builtin.Frozenset.updateFrom
          generalize hPI : pyIter = PI
          wp_walk
          subst hPI
          refine wpAny_pyIter_tuple hl1 ?_
          refine wpAny_bind (wpAny_runValue ?_)
          refine key (T := "tuple") (I := (s.heap.push (freshSet w)).objs.size) { cls := .type "tuple_iterator", data := .fields #[.ref l, .int 0 0] } (by simp [hh]) (by show A.units + 1 + 1 + 1 ≤ A.units + 8; omega) hlt (Heap.size_push ..) rfl (fun hne => Walks.tuple (by simp [hh]) _ l hne items)
            (fun h' hi ho => ⟨⟨_, hi, rfl, rfl⟩, ⟨_, ho _ hol, rfl, nl, rfl⟩⟩) rfl fun t' mv hj => ?_
          obtain ⟨h', g', d', tk', os'⟩ := t'
          have eg : g' = s.gens := mv.gens
          have ed : d' = s.drawn := mv.drawn
          have eo : os' = s.os := mv.os
          have et : s.toks ≤ tk' := mv.toks
          subst eg; subst ed; subst eo
          show wpAny _ _ _ _ _ _
          refine wpAny_pure ?_
          show wpAny _ _ (ret Value.none) _ _ _
          refine wpAny_pure ⟨rfl, h', tk', et, rfl, hj, fun b o q => ?_⟩
          have hb := Heap.lt_size q
          refine mv.heap b o ?_ (Heap.get?_push_of_some _ (Heap.get?_push_of_some _ q))
          simp only [List.mem_cons, List.not_mem_nil, or_false, not_or]
          exact ⟨Nat.ne_of_lt hb, by rw [Heap.size_push]; exact Nat.ne_of_lt (Nat.lt_succ_of_lt hb)⟩
      · cases r2 with
        | error e => exact hr2
        | ok fl2 => cases fl2 with
          | ret r =>
            obtain ⟨rfl, h', tk, htk, rfl, hj, hk⟩ := hr2
            repeat (any_goals (first | assumption | wp_step))
            exact fin _ _ htk hk hj
          | _ => exact hr2.elim
    | _ => exact hr.elim
end
end Y
/-! sets of texts: made, counted, put in order -/
namespace Y
variable [TabC]
open PySem L2 PySem.Spec PyProof.Rows
section
variable {P : Program} {w : World} {A : Around} {E : Value → Shared → Prop} {s : Shared} {a : Addr}
def Led (w : World) (t : SetTable) : Prop := w.params.followText "set-order" = true ∨ t.led = true
/-- the store behind an add, whatever the members are -/
theorem add_tail {g : Bool → Sem Unit} (hg : ∀ (b : Bool) (t : Shared) (Q : Unit → Shared → Prop), Q () t → wpAny (model P w) A (g b) Q E t) {o : Obj} {es es1 : Array (Int × Value)} {ep : Nat} {t t2 : SetTable} (ho : s.heap.get? a = some o) (hd : o.data = .set es ep t)
    (small : es1.size < scanBound) (fit : t2.fits es1.size = true) (ris : Ris t2.place.toList) (led : Led w t2) {dummy : Bool} {R : Option Bool → Shared → Prop}
    (k : ∀ h' es2 ep2 t3, Heap.SameBut a s.heap h' → h'.get? a = some { o with data := .set es2 ep2 t3 } → es2.toList.Perm es1.toList → t3.fits es2.size = true → Ris t3.place.toList → Led w t3 → R (some true) { s with heap := h' }) :
    wpAny (model P w) A (do
      storeSet a es1 t2
      if (!dummy && t2.tooFull) = true then do
        g (relayAll t2 es1 (SetTable.grown es1.size)).2.2
        storeSet a (relayAll t2 es1 (SetTable.grown es1.size)).1 (relayAll t2 es1 (SetTable.grown es1.size)).2.1
        pure (some true)
      else pure (some true)) R E s := by
  refine wpAny_bind (wpAny_storeSet_of ho hd ?_ (fits_of_scanBound small))
  have at1 := store_at (es' := es1) (t' := t2) ho hd
  have sb := Heap.SameBut.update s.heap a (Obj.putSet es1 t2)
  split
  · have p1 := relayAll_perm t2 es1 (SetTable.grown es1.size)
    have p2 := relayAll_fits t2 es1 (SetTable.grown es1.size)
    have p3 := relayAll_ris t2 es1 (SetTable.grown es1.size)
    have p4 := relayAll_led t2 es1 (SetTable.grown es1.size)
    generalize relayAll t2 es1 (SetTable.grown es1.size) = Z at p1 p2 p3 p4 ⊢
    obtain ⟨es2, t3, gave⟩ := Z
    dsimp only at p1 p2 p3 p4 ⊢
    have hz : es2.size = es1.size := by rw [← Array.length_toList, p1.length_eq, Array.length_toList]
    refine wpAny_bind (hg _ _ _ ?_)
    refine wpAny_bind (wpAny_storeSet_of at1 rfl ?_ (fits_of_scanBound (by rw [hz]; exact small)))
    have at2 := store_at (es' := es2) (t' := t3) at1 rfl
    exact wpAny_pure (k _ es2 _ t3 (sb.trans (Heap.SameBut.update _ a _)) at2 p1 p2 p3 (led.imp id fun z => by rw [p4]; exact z))
  · exact wpAny_pure (k _ es1 _ t2 sb at1 (List.Perm.refl _) fit ris led)
/-- the text of a member -/
def kS (e : Int × Value) : Str := match e.2 with
  | .str k _ => k
  | _ => Str.empty
def EltS (w : World) (e : Int × Value) : Prop := ∃ k tk, e.2 = Value.str k tk ∧ e.1 = hashStr w k
/-- at a stands the set of the texts l -/
def SetS (w : World) (h : Heap) (a : Addr) (l : List Str) : Prop :=
  ∃ o es ep t, h.get? a = some o ∧ o.ExactSet ∧ o.data = .set es ep t ∧ (∀ e ∈ es.toList, EltS w e) ∧ (es.toList.map kS).Perm l ∧ l.Nodup ∧ es.size < scanBound ∧ t.fits es.size = true ∧ Ris t.place.toList ∧ Led w t
theorem SetS.keep {h h' : Heap} {l : List Str} (R : SetS w h a l) (k : ∀ o, h.get? a = some o → h'.get? a = some o) : SetS w h' a l := by
  obtain ⟨o, es, ep, t, ho, r⟩ := R
  exact ⟨o, es, ep, t, k o ho, r⟩
theorem setS_new {h : Heap} (ho : h.get? a = some (freshSet w)) : SetS w h a [] :=
  ⟨_, #[], 0, _, ho, ⟨rfl, rfl, rfl⟩, rfl, (fun e he => by simp at he), by simp, List.nodup_nil, by decide, by rfl, List.Pairwise.nil, by
    unfold Led
    cases w.params.followText "set-order"
    · exact .inr rfl
    · exact .inl rfl⟩
theorem eltS_elems {l : List (Int × Value)} (g : ∀ e ∈ l, EltS w e) : ElemsOf (strKind P w) l := fun e he => by
  obtain ⟨k, tk, h1, h2⟩ := g e he
  exact ⟨⟨k, by rw [h1]; exact strKind_is P w k tk, h2⟩, by rw [h1] <;> rfl⟩
theorem eltS_is {e : Int × Value} (g : EltS w e) (k : Str) : (strKind P w).is k e.2 = true ↔ kS e = k := by
  obtain ⟨k0, tk, h1, _⟩ := g
  unfold kS
  rw [h1]
  show ((k0 == k) = true) ↔ k0 = k
  exact beq_iff_eq
/-- one more -/
def addU (l : List Str) (k : Str) : List Str := if k ∈ l then l else l ++ [k]
def uniqS (l : List Str) : List Str := l.foldl addU []
theorem addU_nodup {l : List Str} {k : Str} (h : l.Nodup) : (addU l k).Nodup := by
  unfold addU
  split
  · exact h
  · rename_i hk
    rw [List.nodup_append]
    exact ⟨h, by simp, fun x hx y hy e => by rw [List.mem_singleton.mp hy] at e; rw [e] at hx; exact hk hx⟩
theorem setS_add {l : List Str} {k : Str} {tk : Tok} {Q : Bool → Shared → Prop} (R : SetS w s.heap a l) (room : l.length + 1 < scanBound)
    (fin : ∀ h' b, Heap.SameBut a s.heap h' → SetS w h' a (addU l k) → Q b { s with heap := h' }) : wpAny (model P w) A (setAddHashed a (.str k tk) (hashStr w k)) Q E s := by
  obtain ⟨o, es, ep, t, ho, hex, hd, g, pm, nd, hb, hf, hr, hl⟩ := R
  have is1 : (strKind P w).is k (.str k tk) = true := strKind_is P w k tk
  have scn : (Value.str k tk).scannable = true := rfl
  have els : ElemsOf (strKind P w) es.toList := eltS_elems g
  have hz : es.size = l.length := by rw [← Array.length_toList, ← List.length_map (f := kS), pm.length_eq]
  show wpAny (model P w) A (setAddHashed a (.str k tk) ((strKind P w).hash k)) Q E s
  unfold setAddHashed setAddHashedIn
  refine wpAny_holding (wpAny_bind (wpAny_setState_of ho hd hf ?_))
  dsimp only
  rw [byScan_of scn hb els]
  simp only [↓reduceIte]
  unfold setAddByScan
  refine wpAny_bind ?_
  refine wpAny_bind (wpAny_rule ?_)
  refine wpAny_bind (wpAny_setScan_of is1 ho hd hf els ?_)
  cases hi : List.findIdx? (fun e => (strKind P w).is k e.2) es.toList with
  | some j =>
    dsimp only
    obtain ⟨hj, pj, _⟩ := List.findIdx?_eq_some_iff_getElem.mp hi
    have hm : k ∈ l := pm.mem_iff.mp (List.mem_map.mpr ⟨es.toList[j], List.getElem_mem hj, (eltS_is (g _ (List.getElem_mem hj)) k).mp pj⟩)
    refine wpAny_pure (wpAny_pure (fin s.heap false (Heap.SameBut.refl a s.heap) ?_))
    unfold addU
    rw [if_pos hm]
    exact ⟨o, es, ep, t, ho, hex, hd, g, pm, nd, hb, hf, hr, hl⟩
  | none =>
    dsimp only
    have hn : k ∉ l := fun z => by
      obtain ⟨e, he, q⟩ := List.mem_map.mp (pm.mem_iff.mpr z)
      have c := List.findIdx?_eq_none_iff.mp hi e he
      rw [(eltS_is (g e he) k).mpr q] at c
      cases c
    have gave : ∀ (b : Bool) {t1 : Shared} {Q' : Unit → Shared → Prop}, Q' () t1 → wpAny (model P w) A (match b with | true => rule "set.scan.the-table-gave-way" | false => pure ()) Q' E t1 :=
      fun b t1 Q' q => by cases b <;> first | exact wpAny_pure q | exact wpAny_rule q
    have q1 := layNew_perm t es ((strKind P w).hash k) (.str k tk)
    have q2 := layNew_fits t es ((strKind P w).hash k) (.str k tk)
    have q3 := layNew_ris t es ((strKind P w).hash k) (.str k tk) hr
    have q4 := layNew_led t es ((strKind P w).hash k) (.str k tk)
    generalize layNew t es ((strKind P w).hash k) (.str k tk) = Z at q1 q2 q3 q4 ⊢
    obtain ⟨es1, t1, dummy, gv⟩ := Z
    dsimp only at q1 q2 q3 q4 ⊢
    rw [Array.toList_push] at q1
    have qc : es1.toList.Perm (((strKind P w).hash k, Value.str k tk) :: es.toList) := q1.trans (List.perm_append_singleton _ _)
    have g1 : ∀ e ∈ es1.toList, EltS w e := fun e he => by
      rcases List.mem_cons.mp (qc.mem_iff.mp he) with z | z
      · rw [z]; exact ⟨k, tk, rfl, rfl⟩
      · exact g e z
    have pk : (es1.toList.map kS).Perm (l ++ [k]) := (qc.map kS).trans ((List.Perm.cons k pm).trans (List.perm_append_singleton k l).symm)
    have z1 : es1.size = l.length + 1 := by rw [← Array.length_toList, ← List.length_map (f := kS), pk.length_eq, List.length_append]; rfl
    have small : es1.size < scanBound := by rw [z1]; exact room
    have led1 : Led w t1 := hl.imp id fun z => by rw [q4]; exact z
    have nd1 : (addU l k).Nodup := addU_nodup nd
    have ea : addU l k = l ++ [k] := by unfold addU; rw [if_neg hn]
    have done : ∀ h' es2 ep2 t3, Heap.SameBut a s.heap h' → h'.get? a = some { o with data := .set es2 ep2 t3 } → es2.toList.Perm es1.toList → t3.fits es2.size = true → Ris t3.place.toList → Led w t3 → Q true { s with heap := h' } := fun h' es2 ep2 t3 sb at3 pm3 f3 r3 l3 =>
      fin h' true sb ⟨_, es2, ep2, t3, at3, hex, rfl, fun e he => g1 e (pm3.mem_iff.mp he), by rw [ea]; exact (pm3.map kS).trans pk, nd1, by rw [← Array.length_toList, pm3.length_eq, Array.length_toList]; exact small, f3, r3, l3⟩
    refine wpAny_bind (gave _ ?_)
    split
    · refine wpAny_bind ?_
      rw [hashByValue_scannable 8 scn]
      refine wpAny_pure ?_
      refine add_tail ?_ ho hd small ?_ ?_ ?_ ?_
      · intro b t1 Q' q; cases b <;> first | exact wpAny_pure q | exact wpAny_rule q
      · first | (split <;> first | exact q2 | exact SetTable.fits_plain_off q2) | exact q2
      · first | (split <;> exact q3) | exact q3
      · first | (split <;> exact led1) | exact led1
      · intro h' es2 ep2 t3 a1 a2 a3 a4 a5 a6; dsimp only; exact wpAny_pure (done h' es2 ep2 t3 a1 a2 a3 a4 a5 a6)
    · refine wpAny_bind (wpAny_pure ?_)
      simp only [↓reduceIte]
      refine add_tail ?_ ho hd small q2 q3 led1 ?_
      · intro b t1 Q' q; cases b <;> first | exact wpAny_pure q | exact wpAny_rule q
      · intro h' es2 ep2 t3 a1 a2 a3 a4 a5 a6; dsimp only; exact wpAny_pure (done h' es2 ep2 t3 a1 a2 a3 a4 a5 a6)
theorem uniq_take {xs : List Str} {i : Nat} {k : Str} (h : xs[i]? = some k) : uniqS (xs.take (i + 1)) = addU (uniqS (xs.take i)) k := by
  obtain ⟨hi, rfl⟩ := List.getElem?_eq_some_iff.mp h
  unfold uniqS
  rw [List.take_succ_eq_append_getElem hi, List.foldl_append]
  rfl
theorem addU_len {l : List Str} {k : Str} : (addU l k).length ≤ l.length + 1 := by
  unfold addU
  split
  · omega
  · simp
theorem uniq_len : ∀ {xs acc : List Str}, (xs.foldl addU acc).length ≤ acc.length + xs.length
  | [], _ => Nat.le_refl _
  | x :: xs, acc => by
    have h1 := addU_len (l := acc) (k := x)
    have h2 := uniq_len (xs := xs) (acc := addU acc x)
    rw [List.foldl_cons, List.length_cons]; omega
theorem uniqS_len {xs : List Str} : (uniqS xs).length ≤ xs.length := by
  have := uniq_len (xs := xs) (acc := [])
  simpa [uniqS] using this
/-- set(l), l a list or a tuple of texts -/
theorem call_setS {l : Addr} {items : Array Value} {xs : List Str} {Q : Value → Shared → Prop} (hh : A.handled = none) (hl : s.heap.IsList l items ∨ s.heap.IsTuple l items) (hi : StrsAre items.toList xs) (room : xs.length + 1 < scanBound)
    (fin : ∀ h' tk, (∀ b o, s.heap.get? b = some o → h'.get? b = some o) → SetS w h' s.heap.objs.size (uniqS xs) → Q (.ref s.heap.objs.size) { s with heap := h', toks := tk }) :
    wpAny (model P w) A (call (.type "set") [.ref l]) Q E s := by
  have hz : items.size = xs.length := by rw [← StrsAre.len_eq hi, Array.length_toList]
  refine call_set_of (J := fun i h => SetS w h s.heap.objs.size (uniqS (xs.take i))) hh hl (fun h' _ hf => setS_new hf) (fun i h h' R k => R.keep fun o q => k _ o (Nat.ne_of_lt (Nat.lt_succ_self _)) q) ?_ fun h' tk _ k R => fin h' tk k (by rw [hz, List.take_length] at R; exact R)
  intro A' _ _ i v t E' Q' hlt pv R k
  have pl : items.toList[i]? = some v := by rw [Array.getElem?_toList]; exact pv
  obtain ⟨tk, rfl⟩ := SS.strs_at hi i v pl
  have hx : xs[i]? = some (xs.getD i Str.empty) := by
    have : i < xs.length := by omega
    rw [List.getD_eq_getElem?_getD, List.getElem?_eq_getElem this]; rfl
  generalize xs.getD i Str.empty = z at hx pl pv ⊢
  unfold setAdd
  refine wpAny_holding ?_
  refine wpAny_bind ((strKind P w).pyHash (k := z) (strKind_is _ _ _ _) ?_)
  refine setS_add (s := { t with toks := t.toks + 1 }) R ?_ fun h' b sb R' => k h' _ b (Nat.le_succ _) sb (by show SetS w h' s.heap.objs.size (uniqS (xs.take (i + 1))); rw [uniq_take hx]; exact R')
  have h1 := uniqS_len (xs := xs.take i)
  rw [List.length_take] at h1
  omega
end
end Y
namespace Y
variable [TabC]
open PySem L2
/-! ### texts and pairs of texts in order -/
theorem tl_inj {a b : Str} (h : a.cps.toList = b.cps.toList) : a = b := by
  obtain ⟨⟨x⟩⟩ := a
  obtain ⟨⟨y⟩⟩ := b
  simp only at h
  rw [h]
def ltS (a b : Str) : Prop := a.cps.toList < b.cps.toList
instance (a b : Str) : Decidable (ltS a b) := inferInstanceAs (Decidable (_ < _))
theorem ltS_irr (a : Str) : ¬ ltS a a := List.lt_irrefl _
theorem ltS_trans {a b c : Str} (h : ltS a b) (h' : ltS b c) : ltS a c := List.lt_trans h h'
theorem ltS_asym {a b : Str} (h : ltS a b) : ¬ ltS b a := fun h' => ltS_irr a (ltS_trans h h')
theorem ltS_tri (a b : Str) : ltS a b ∨ a = b ∨ ltS b a := by
  by_cases h : ltS a b
  · exact .inl h
  by_cases h' : ltS b a
  · exact .inr (.inr h')
  refine .inr (.inl (tl_inj ?_))
  exact List.le_antisymm (List.not_lt.mp h') (List.not_lt.mp h)
abbrev P2S := Str × Str
def ltP (p q : P2S) : Prop := ltS p.1 q.1 ∨ (p.1 = q.1 ∧ ltS p.2 q.2)
instance (p q : P2S) : Decidable (ltP p q) := inferInstanceAs (Decidable (_ ∨ _))
theorem ltP_irr (p : P2S) : ¬ ltP p p := fun h => by
  rcases h with h | ⟨_, h⟩ <;> exact ltS_irr _ h
theorem ltP_trans {p q r : P2S} (h : ltP p q) (h' : ltP q r) : ltP p r := by
  obtain ⟨a, b⟩ := p; obtain ⟨c, d⟩ := q; obtain ⟨e, f⟩ := r
  rcases h with h | ⟨e1, h⟩ <;> rcases h' with h' | ⟨e2, h'⟩
  · exact .inl (ltS_trans h h')
  · simp only at e2; subst e2; exact .inl h
  · simp only at e1; subst e1; exact .inl h'
  · simp only at e1 e2; subst e1 e2; exact .inr ⟨rfl, ltS_trans h h'⟩
theorem ltP_tri (p q : P2S) : ltP p q ∨ p = q ∨ ltP q p := by
  obtain ⟨a, b⟩ := p; obtain ⟨c, d⟩ := q
  rcases ltS_tri a c with h | h | h
  · exact .inl (.inl h)
  · subst h
    rcases ltS_tri b d with h | h | h
    · exact .inl (.inr ⟨rfl, h⟩)
    · subst h; exact .inr (.inl rfl)
    · exact .inr (.inr (.inr ⟨rfl, h⟩))
  · exact .inr (.inr (.inl h))
def sD (z : Str) : D := .str z
def pD (p : P2S) : D := .tup [.str p.1, .str p.2]
theorem py_s (z : Str) : pyD (.str z) = .str z := rfl
theorem py_p (p : P2S) : pyD (pD p) = .tuple [.str p.1, .str p.2] := rfl
theorem lt_pp (p q : P2S) : PySem.W.dataLt (.tuple [.str p.1, .str p.2]) (.tuple [.str q.1, .str q.2]) = decide (ltP p q) := by
  rw [PySem.W.dataLt_pair (by simp [PySem.W.alike]) (by simp [PySem.W.alike]), PySem.W.dataLt_str, PySem.W.dataLt_str]
  simp only [PyData.eqv, beq_iff_eq]
  obtain ⟨a, b⟩ := p; obtain ⟨c, d⟩ := q
  by_cases h1 : a = c
  · subst h1
    rw [if_pos rfl]
    by_cases h2 : b = d
    · subst h2
      rw [if_pos rfl, decide_eq_false (ltP_irr _)]
    · rw [if_neg h2]
      refine decide_eq_decide.mpr ⟨fun h => .inr ⟨rfl, h⟩, fun h => ?_⟩
      rcases h with h | ⟨_, h⟩
      · exact absurd h (ltS_irr _)
      · exact h
  · rw [if_neg h1]
    refine decide_eq_decide.mpr ⟨fun h => .inl h, fun h => ?_⟩
    rcases h with h | ⟨h, _⟩
    · exact h
    · exact absurd h h1
theorem leD_s (a b : Str) : leD (.str a) (.str b) = !decide (ltS b a) := by
  show (!PySem.W.dataLt (.str b) (.str a)) = _
  rw [PySem.W.dataLt_str]; rfl
theorem leD_p (p q : P2S) : leD (pD p) (pD q) = !decide (ltP q p) := by
  show (!PySem.W.dataLt (.tuple [.str q.1, .str q.2]) (.tuple [.str p.1, .str p.2])) = _
  rw [lt_pp]
def sortS (zs : List Str) : List Str := zs.mergeSort fun a b => !decide (ltS b a)
def sortP (ps : List P2S) : List P2S := ps.mergeSort fun a b => !decide (ltP b a)
theorem sortD_s (zs : List Str) : sortD (zs.map .str) = (sortS zs).map .str := by
  unfold sortD sortS
  refine (List.map_mergeSort (r := fun a b : Str => !decide (ltS b a)) (f := D.str) fun a _ b _ => ?_).symm
  rw [leD_s]
theorem sortD_p (ps : List P2S) : sortD (ps.map pD) = (sortP ps).map pD := by
  unfold sortD sortP
  refine (List.map_mergeSort (r := fun a b : P2S => !decide (ltP b a)) (f := pD) fun a _ b _ => ?_).symm
  rw [leD_p]
theorem srtOk_s (zs : List Str) : srtOk (zs.map .str) = true := by
  unfold srtOk
  simp only [Bool.and_eq_true, Bool.or_eq_true, List.all_eq_true]
  refine ⟨⟨?_, ?_⟩, .inr ?_⟩
  · intro d hd; obtain ⟨z, _, rfl⟩ := List.mem_map.mp hd; simp [D.py, py_s, PyData.depth]
  · intro d hd e he; obtain ⟨z, _, rfl⟩ := List.mem_map.mp hd; obtain ⟨y, _, rfl⟩ := List.mem_map.mp he
    simp [py_s, PySem.W.alike]
  · intro d hd; obtain ⟨z, _, rfl⟩ := List.mem_map.mp hd; rfl
theorem srtOk_p (ps : List P2S) : srtOk (ps.map pD) = true := by
  unfold srtOk
  simp only [Bool.and_eq_true, Bool.or_eq_true, List.all_eq_true]
  refine ⟨⟨?_, ?_⟩, .inl ?_⟩
  · intro d hd; obtain ⟨z, _, rfl⟩ := List.mem_map.mp hd; simp [pD, D.py, D.pyL, pyD, PyData.depth, PyData.depthAll]
  · intro d hd e he; obtain ⟨z, _, rfl⟩ := List.mem_map.mp hd; obtain ⟨y, _, rfl⟩ := List.mem_map.mp he
    simp [py_p, PySem.W.alike, PySem.W.alikeAll]
  · intro d hd; obtain ⟨z, _, rfl⟩ := List.mem_map.mp hd; rfl
theorem sorted_gen {α : Type} {lt : α → α → Prop} [∀ a b, Decidable (lt a b)] (irr : ∀ a, ¬ lt a a) (tr : ∀ {a b c}, lt a b → lt b c → lt a c) (tri : ∀ a b, lt a b ∨ a = b ∨ lt b a) {xs : List α} (h : xs.Nodup) :
    (xs.mergeSort fun a b => !decide (lt b a)).Pairwise lt := by
  have h1 : (xs.mergeSort fun a b => !decide (lt b a)).Pairwise fun a b => (!decide (lt b a)) = true := by
    refine List.pairwise_mergeSort ?_ ?_ xs
    · intro a b c h1 h2
      simp only [Bool.not_eq_true', decide_eq_false_iff_not] at h1 h2 ⊢
      intro h3
      rcases tri a b with h | h | h
      · exact h2 (tr h3 h)
      · subst h; exact h2 h3
      · exact h1 h
    · intro a b
      simp only [Bool.or_eq_true, Bool.not_eq_true', decide_eq_false_iff_not]
      by_cases h : lt b a
      · exact .inr fun h' => irr _ (tr h h')
      · exact .inl h
  have h2 : (xs.mergeSort fun a b => !decide (lt b a)).Nodup := (List.mergeSort_perm xs _).nodup_iff.mpr h
  have h3 := List.Pairwise.and h1 h2
  refine h3.imp fun {a b} ⟨q1, q2⟩ => ?_
  simp only [Bool.not_eq_true', decide_eq_false_iff_not] at q1
  rcases tri a b with h | h | h
  · exact h
  · exact absurd h q2
  · exact absurd h q1
theorem sortS_lt {zs : List Str} (h : zs.Nodup) : (sortS zs).Pairwise ltS := sorted_gen ltS_irr ltS_trans ltS_tri h
theorem sortP_lt {ps : List P2S} (h : ps.Nodup) : (sortP ps).Pairwise ltP := sorted_gen ltP_irr ltP_trans ltP_tri h
theorem sortS_perm (zs : List Str) : (sortS zs).Perm zs := List.mergeSort_perm _ _
theorem sortP_perm (ps : List P2S) : (sortP ps).Perm ps := List.mergeSort_perm _ _
theorem sortS_mem {zs : List Str} {z : Str} : z ∈ sortS zs ↔ z ∈ zs := (sortS_perm zs).mem_iff
theorem sortP_mem {ps : List P2S} {p : P2S} : p ∈ sortP ps ↔ p ∈ ps := (sortP_perm ps).mem_iff
theorem sortS_len (zs : List Str) : (sortS zs).length = zs.length := (sortS_perm zs).length_eq
theorem sortP_len (ps : List P2S) : (sortP ps).length = ps.length := (sortP_perm ps).length_eq

/-- two rows in order of the same things -/
theorem perm_lt_eq {α : Type} {lt : α → α → Prop} (irr : ∀ a, ¬ lt a a) (tr : ∀ {a b c}, lt a b → lt b c → lt a c) : ∀ {xs ys : List α}, xs.Perm ys → xs.Pairwise lt → ys.Pairwise lt → xs = ys
  | [], ys, p, _, _ => p.nil_eq
  | x :: xs, [], p, _, _ => absurd p.length_eq (by simp)
  | x :: xs, y :: ys, p, h1, h2 => by
    obtain ⟨a1, b1⟩ := List.pairwise_cons.mp h1
    obtain ⟨a2, b2⟩ := List.pairwise_cons.mp h2
    have e : x = y := by
      rcases List.mem_cons.mp (p.mem_iff.mp List.mem_cons_self) with e | hx
      · exact e
      · rcases List.mem_cons.mp (p.mem_iff.mpr List.mem_cons_self) with e | hy
        · exact e.symm
        · exact absurd (tr (a2 x hx) (a1 y hy)) (irr y)
    subst e
    rw [perm_lt_eq irr tr (List.Perm.cons_inv p) b1 b2]
theorem sortS_perm_eq {xs ys : List Str} (p : xs.Perm ys) (h : ys.Nodup) : sortS xs = sortS ys :=
  perm_lt_eq ltS_irr ltS_trans ((sortS_perm xs).trans (p.trans (sortS_perm ys).symm)) (sortS_lt (p.nodup_iff.mpr h)) (sortS_lt h)
theorem foldU_nodup : ∀ {xs acc : List Str}, acc.Nodup → (xs.foldl addU acc).Nodup
  | [], _, h => h
  | x :: xs, acc, h => foldU_nodup (xs := xs) (addU_nodup h)
theorem uniqS_nodup {xs : List Str} : (uniqS xs).Nodup := foldU_nodup List.nodup_nil
theorem foldU_mem {z : Str} : ∀ {xs acc : List Str}, z ∈ xs.foldl addU acc ↔ z ∈ acc ∨ z ∈ xs
  | [], acc => by simp
  | x :: xs, acc => by
    rw [List.foldl_cons, foldU_mem (xs := xs), List.mem_cons]
    unfold addU
    split
    · rename_i h
      constructor
      · rintro (h1 | h1)
        · exact .inl h1
        · exact .inr (.inr h1)
      · rintro (h1 | rfl | h1)
        · exact .inl h1
        · exact .inl h
        · exact .inr h1
    · rw [List.mem_append, List.mem_singleton]
      constructor
      · rintro ((h1 | h1) | h1)
        · exact .inl h1
        · exact .inr (.inl h1)
        · exact .inr (.inr h1)
      · rintro (h1 | h1 | h1)
        · exact .inl (.inl h1)
        · exact .inl (.inr h1)
        · exact .inr h1
theorem uniqS_mem {z : Str} {xs : List Str} : z ∈ uniqS xs ↔ z ∈ xs := by
  unfold uniqS; rw [foldU_mem]; simp
section
open PySem.Spec PyProof.Rows
variable {X : Cx}
/-- the set of the texts l -/
def SetSO (w : World) (a : Addr) (l : List Str) : HO := .ext fun h => SetS w h a l
theorem setSO_new {w : World} {P : Program} {H : Hp} {h : Heap} {a : Addr} {l : List Str} (R : SetS w h a l) : ObjOk P w H h a (SetSO w a l) :=
  ⟨R, by obtain ⟨o, _, _, _, ho, _⟩ := R; exact ⟨o, ho⟩, fun h1 h2 p k => SetS.keep p k⟩
theorem setSO_get {pins : List (Addr × Obj)} {σ : L2.St} {H : Hp} {s : Shared} {a : Addr} {l : List Str} (I : Inv X pins σ H s) (ha : H a = some (SetSO X.w a l)) : SetS X.w s.heap a l := (I.hok a _ ha).1
def rSetS (X : Cx) : List V → Hp → VK → Prop := fun vs H Q => ∃ (a : Addr) (xs : List Str), vs = [.ref a] ∧ (SqL X.K H a (xs.map V.str) ∨ SqT X.K H a (xs.map V.str)) ∧ xs.length + 1 < scanBound ∧ ∀ p, H p = none → Q (.ref p) (upd H p (SetSO X.w p (uniqS xs)))
theorem cr_setS (hc : X.calm = true) : CallR X (.type "set") (rSetS X) := by
  intro pins s σ H vs us Q I r h
  obtain ⟨a, xs, rfl, hq, hz, q⟩ := h
  obtain ⟨u, rfl, ru⟩ := Vals.one r
  cases ru
  have key : ∀ its : List Value, Vals (xs.map V.str) its → (s.heap.IsList a its.toArray ∨ s.heap.IsTuple a its.toArray) → wpAny (model X.prog X.w) X.A (call (.type "set") [.ref a]) (EP X pins σ Q) X.xe s := fun its rv pl => by
    refine call_setS (I.ok.hd hc) pl (by simpa using strsAre_of rv) hz fun h' tk k R => ?_
    exact ⟨.ref _, upd H s.heap.objs.size (SetSO X.w s.heap.objs.size (uniqS xs)), I.laid (t' := tk) k (Nat.le_refl _) (setSO_new R), rfl, q _ (I.hok.fresh (Nat.le_refl _))⟩
  rcases hq with hq | hq
  · obtain ⟨its, rv, pl, _⟩ := I.list hq
    exact key its rv (.inl pl.isList)
  · obtain ⟨its, rv, pl, _⟩ := I.tuple hq
    exact key its rv (.inr pl)
def rLenS (X : Cx) : List V → Hp → VK → Prop := fun vs H Q => ∃ (a : Addr) (l : List Str), vs = [.ref a] ∧ H a = some (SetSO X.w a l) ∧ Q (.int l.length) H
theorem cr_lenS : CallR X (.builtin "len") (rLenS X) := by
  intro pins s σ H vs us Q I r h
  obtain ⟨a, l, rfl, ha, q⟩ := h
  obtain ⟨u, rfl, ru⟩ := Vals.one r
  cases ru
  obtain ⟨o, es, ep, t, ho, hex, hd, _, pm, _, hb, hf, _⟩ := setSO_get I ha
  have hz : es.size = l.length := by rw [← Array.length_toList, ← List.length_map (f := kS), pm.length_eq]
  refine call_len_set ho hex hd hf (by have : scanBound ≤ 100000 := by decide
                                       omega) ⟨.int l.length, H, I.tok _, ⟨_, by rw [hz]⟩, q⟩
theorem vals_texts : ∀ {es : List (Int × Value)} {out : List Value}, out = es.map (·.2) → ∀ {w : World}, (∀ e ∈ es, EltS w e) → Vals ((es.map kS).map V.str) out
  | [], _, rfl, _, _ => .nil
  | e :: es, _, rfl, w, g => by
    obtain ⟨k, tk, h1, _⟩ := g e List.mem_cons_self
    refine .cons ⟨tk, ?_⟩ (vals_texts rfl fun x hx => g x (List.mem_cons_of_mem _ hx))
    unfold kS
    show e.2 = _
    rw [h1]
theorem perm_map_back {α β : Type} {f : α → β} : ∀ {ys : List β} {xs : List α}, ys.Perm (xs.map f) → ∃ zs : List α, ys = zs.map f ∧ zs.Perm xs
  | [], xs, p => by
    cases xs with
    | nil => exact ⟨[], rfl, .refl _⟩
    | cons x xs => exact absurd p.length_eq (by simp)
  | y :: ys, xs, p => by
    obtain ⟨x, hx, rfl⟩ := List.mem_map.mp (p.mem_iff.mp List.mem_cons_self)
    obtain ⟨l1, l2, rfl⟩ := List.append_of_mem hx
    have p2 : (f x :: ys).Perm (f x :: (l1 ++ l2).map f) := p.trans (by
      rw [List.map_append, List.map_cons, List.map_append]
      exact List.perm_middle)
    obtain ⟨zs, rfl, pz⟩ := perm_map_back (xs := l1 ++ l2) (List.Perm.cons_inv p2)
    exact ⟨x :: zs, rfl, (pz.cons x).trans List.perm_middle.symm⟩
theorem Coll.setS {H : Hp} {a : Addr} {l : List Str} (ha : H a = some (SetSO X.w a l)) : Coll X H a (fun xs => xs.Perm (l.map V.str)) := by
  intro pins s σ A E R I hh k
  obtain ⟨o, es, ep, t, ho, hex, hd, g, pm, nd, hb, hf, hr, hl⟩ := setSO_get I ha
  refine collect_set hh ⟨o, ho, hex.1, hd⟩ hf hb hr hl fun s' out kp hz hg hos po => ?_
  obtain ⟨es', rfl, pe⟩ := perm_map_back po
  have rv : Vals ((es'.map kS).map V.str) (es'.map (·.2)) := vals_texts rfl fun e he => g e (pe.mem_iff.mp he)
  refine k s' _ _ (I.call' (ch := []) hos (Un.kept kp) (I.hok.kept kp) (by rw [hg]; exact I.bare) fun _ z => nomatch z) ?_ rv ?_
  · exact ((pe.map kS).trans pm).map V.str
  · rw [List.length_map, pe.length_eq, Array.length_toList]; exact fits_of_scanBound hb
end
/-! .. by content -/
def dSortSet (d : D) : PR := match seqOf d with
  | some ds => match strsOf ds with
    | some xs => if xs.length < 4000 then .nw (.lst (sortD ((uniqS xs).map .str))) else .no
    | none => .no
  | none => .no
def dLenSet (d : D) : PR := match seqOf d with
  | some ds => match strsOf ds with
    | some xs => if xs.length < 4000 then .sh (.int (uniqS xs).length) else .no
    | none => .no
  | none => .no
section
variable {X : Cx} {K : PySem.W.Frag} {W : Wd} {H : Hp} {a : Expr} {pos p0 p1 p2 : Pos}
theorem Con.seqOf {v : V} {d : D} {ds : List D} (c : Con K W H v d) (e : seqOf d = some ds) : ∃ a xs, v = .ref a ∧ (SqL K H a xs ∨ SqT K H a xs) ∧ DenL K W H xs ds := by
  cases d with
  | tup _ => cases e; obtain ⟨a, xs, e, h1, h2⟩ := c.tup; exact ⟨a, xs, e, .inr h1, h2⟩
  | ftup _ => cases e; obtain ⟨a, xs, e, h1, h2⟩ := c.ftup; exact ⟨a, xs, e, .inr h1, h2⟩
  | ctup _ => cases e; obtain ⟨a, xs, e, h1, h2⟩ := c.ctup; exact ⟨a, xs, e, .inr h1, h2⟩
  | lst _ => cases e; obtain ⟨a, xs, e, h1, h2⟩ := c.lst; exact ⟨a, xs, e, .inl h1, h2⟩
  | clst _ => cases e; obtain ⟨a, xs, e, h1, h2⟩ := c.clst; exact ⟨a, xs, e, .inl h1.sq, h2⟩
  | _ => cases e
theorem star1_call {f : Expr} {es : List Expr} {kws : List Keyword} {p : Pos} : Star1 X (.Call f es kws p) := fun _ => rfl
theorem scan4000 {n : Nat} (h : n < 4000) : n + 1 < scanBound := by
  have : (4002 : Nat) ≤ scanBound := by decide
  omega
theorem se_lenSet {o : Opd} (hc : X.calm = true) (bn : Bn X "len") (bn2 : Bn X "set") (hs : Star1 X a) (ha : SO X a o) : SE X (.Call (.Name "len" p0) [.Call (.Name "set" p1) [a] [] p2] [] pos) (cU dLenSet o) := by
  intro σ H W l g Q ok p
  obtain ⟨t, pe, ht⟩ := su (R := fun v H1 => rSetS X [v] H1 fun x H2 => rLenS X [x] H2 Q) o ha ok p fun v d W1 H1 c o => by
    unfold dLenSet at o
    split at o
    · rename_i ds e1
      split at o
      · rename_i xs e2
        obtain ⟨hn, o⟩ := o.ite
        obtain ⟨a, vs, rfl, h1, h2⟩ := c.seqOf e1
        obtain rfl := strs_den h2 e2
        refine ⟨a, xs, rfl, h1, scan4000 hn, fun q hq => ⟨q, _, rfl, upd_same, ?_⟩⟩
        exact o _ _ (.mid hq (.same (.int _)))
      · exact False.elim o
    · exact False.elim o
  exact tW.of (pe_callB cr_lenS bn.gl bn.mg (by decide +kernel) (pa_1 (pe_callTy (cr_setS hc) bn2.gl bn2.mg (by decide +kernel) (pa_1 pe hs) bn2.nn bn2.db (hs []) rfl) star1_call) bn.nn bn.db rfl rfl) ht
theorem denL_strs : ∀ zs : List Str, DenL K W H (zs.map V.str) (zs.map D.str)
  | [] => .nil
  | z :: zs => .cons (.str z) (denL_strs zs)
theorem sortPs (zs : List Str) : ((zs.map fun z => (V.str z, PyData.str z)).mergeSort (PySem.W.dataLe false (·.2))).map (·.1) = (sortS zs).map V.str := by
  have e1 : ((zs.map fun z => (V.str z, PyData.str z)).mergeSort (PySem.W.dataLe false (·.2))) = (zs.mergeSort fun a b => leD (.str a) (.str b)).map fun z => (V.str z, PyData.str z) :=
    (List.map_mergeSort (r := fun a b : Str => leD (.str a) (.str b)) (f := fun z : Str => (V.str z, PyData.str z)) fun a _ b _ => rfl).symm
  rw [e1, List.map_map]
  unfold sortS
  simp only [leD_s]
  rfl
theorem se_sortSet {o : Opd} (hc : X.calm = true) (hu : X.A.units + 65 < cLine) (bn : Bn X "sorted") (bn2 : Bn X "set") (hs : Star1 X a) (ha : SO X a o) : SE X (.Call (.Name "sorted" p0) [.Call (.Name "set" p1) [a] [] p2] [] pos) (cU dSortSet o) := by
  intro σ H W l g Q ok p
  obtain ⟨t, pe, ht⟩ := su (R := fun v H1 => rSetS X [v] H1 fun x H2 => rSortedA X [x] H2 Q) o ha ok p fun v d W1 H1 c o => by
    unfold dSortSet at o
    split at o
    · rename_i ds e1
      split at o
      · rename_i xs e2
        obtain ⟨hn, o⟩ := o.ite
        obtain ⟨a, vs, rfl, h1, h2⟩ := c.seqOf e1
        obtain rfl := strs_den h2 e2
        refine ⟨a, xs, rfl, h1, scan4000 hn, fun q hq => ⟨q, _, rfl, Coll.setS upd_same, fun ys hy => ?_⟩⟩
        obtain ⟨zs, rfl, pz⟩ := perm_map_back hy
        have so := srtOk_ok (srtOk_s zs)
        refine ⟨zs.map fun z => (V.str z, PyData.str z), by rw [List.map_map]; rfl, fun r hr => ?_, ?_, fun r hr => ?_⟩
        · obtain ⟨z, _, rfl⟩ := List.mem_map.mp hr
          exact (Den.str z : Den X.K W1 _ (.str z) (.str z)).dp _ _ rfl
        · rw [List.map_map] at so ⊢
          exact so
        · rw [sortPs, sortS_perm_eq pz uniqS_nodup]
          refine o _ _ (.mid hq (.lst hr ?_))
          rw [sortD_s]
          exact denL_strs _
      · exact False.elim o
    · exact False.elim o
  exact tW.of (pe_callB (call_sortedA hc hu) bn.gl bn.mg (by decide +kernel) (pa_1 (pe_callTy (cr_setS hc) bn2.gl bn2.mg (by decide +kernel) (pa_1 pe hs) bn2.nn bn2.db (hs []) rfl) star1_call) bn.nn bn.db rfl rfl) ht
end
end Y
/-! tuples of their own kind by a display, by +; a range down -/
namespace Y
variable [TabC]
open PySem L2
section
open PySem.Spec PyProof.Rows
variable {X : Cx} {es : List Expr} {t : TA} {pos : Pos}
def IsTO (o : Obj) : Prop := o.cls = .type "tuple" ∧ o.dict = none
theorem pe_tupD {k : Nat} (h : PA X es t) : PE X (.Tuple es k pos) (fun σ H Q => t σ H fun xs H1 => xs.length ≤ sizeLine ∧ ∀ p o, H1 p = none → IsTO o → Q (.ref p) (upd H1 p (.frz o (.tup xs)))) := by
  refine ⟨fun pins s σ H Q I hq => ?_⟩
  refine wpAny_Tuple_spliced (thn (h.run pos pins s σ H _ I hq) fun us s1 ⟨xs, H1, I1, r, z, q⟩ => ⟨by rw [← r.length]; exact z, ?_⟩)
  have hf : H1 s1.heap.objs.size = none := I1.hok.fresh (Nat.le_refl _)
  refine ⟨.ref s1.heap.objs.size, upd H1 s1.heap.objs.size (.frz { cls := .type "tuple", data := .seq us.toArray } (.tup xs)), I1.laid (t' := s1.toks) (fun b u e => Heap.get?_push_of_some _ e) (Nat.le_refl _) ?_, rfl, q _ _ hf ⟨rfl, rfl⟩⟩
  exact ⟨Heap.get?_push_size _ rfl, z, us, r, IsTup.new _ _⟩
def rCatF (K : PySem.W.Frag) : R2 := fun x y H Q => ∃ a b xs ys, x = .ref a ∧ y = .ref b ∧ SqT K H a xs ∧ SqT K H b ys ∧ xs ≠ [] ∧ ys ≠ [] ∧ xs.length + ys.length ≤ sizeLine ∧ ∀ p o, H p = none → IsTO o → Q (.ref p) (upd H p (.frz o (.tup (xs ++ ys))))
theorem op_catF : OpR X (binaryOp .Add) (rCatF X.K) := by
  intro pins s σ H x y v u Q I rx ry h
  obtain ⟨a, b, xs, ys, rfl, rfl, ha, hb, hx, hy, hz, q⟩ := h
  cases rx
  cases ry
  obtain ⟨its, r1, p1, _⟩ := I.tuple ha
  obtain ⟨jts, r2, p2, _⟩ := I.tuple hb
  refine HT.cat_tup p1 p2 (fun z => hx (r1.nil_iff.mp z)) (fun z => absurd (r2.nil_iff.mp z) hy) (fun _ => ?_) (by rw [← r1.length, ← r2.length]; exact hz)
  refine ⟨.ref s.heap.objs.size, _, I.laid (t' := s.toks) (o := .frz { cls := .type "tuple", data := .seq (its ++ jts).toArray } (.tup (xs ++ ys))) (fun b ob q => Heap.get?_push_of_some _ q) (Nat.le_refl _) ?_, rfl, q _ _ (I.hok.fresh (Nat.le_refl _)) ⟨rfl, rfl⟩⟩
  exact ⟨Heap.get?_push_size _ rfl, by rw [List.length_append]; exact hz, _, r1.append r2, IsTup.new _ _⟩
end
def cTupD (ms : List Sm) : Sm := cArgs ms fun ds l g => if ds.length ≤ sizeLine then .ok (.ftup ds) false l g else .no
def dAddF (x y : D) : PR := match tupOf x, tupOf y with
  | some ds, some es => if ds ≠ [] ∧ es ≠ [] ∧ ds.length + es.length ≤ sizeLine then .sh (.ftup (ds ++ es)) else .no
  | _, _ => .no
section
variable {X : Cx} {K : PySem.W.Frag} {W W1 : Wd} {H H1 : Hp} {σ σ1 : L2.St} {l l1 : Lc} {g g1 : Gs} {a b c tg : Expr} {ma mb mc : Sm} {pos p0 : Pos}
theorem se_tupD {es : List Expr} {ms : List Sm} {k : Nat} (h : SA X es ms) : SE X (.Tuple es k pos) (cTupD ms) := by
  intro σ H W l g Q ok p
  obtain ⟨t, pa, q⟩ := sa (R := fun xs H1 => xs.length ≤ sizeLine ∧ ∀ p o, H1 p = none → IsTO o → Q (.ref p) (upd H1 p (.frz o (.tup xs)))) h ok p fun ds vs W1 H1 l1 g1 p1 ok1 fr1 den => by
    obtain ⟨hl, p1⟩ := p1.ite
    exact ⟨by rw [den.length]; exact hl, fun a o ha ho => NewV.post ok1 (.ftup ha ho.1 ho.2 den) p1⟩
  exact tW.of (pe_tupD pa) q
theorem Con.tupOf {v : V} {d : D} {ds : List D} (c : Con K W H v d) (e : tupOf d = some ds) : ∃ a xs, v = .ref a ∧ SqT K H a xs ∧ DenL K W H xs ds := by
  cases d with
  | tup _ => cases e; exact c.tup
  | ftup _ => cases e; exact c.ftup
  | _ => cases e
theorem p2_addF : P2 K (rCatF K) dAddF := by
  intro v u x y W H Q c1 c2 o
  unfold dAddF at o
  split at o
  · rename_i ds es e1 e2
    obtain ⟨⟨n1, n2, hl⟩, o⟩ := o.ite
    obtain ⟨a, xs, rfl, h1, h2⟩ := c1.tupOf e1
    obtain ⟨b, ys, rfl, h3, h4⟩ := c2.tupOf e2
    refine ⟨a, b, xs, ys, rfl, rfl, h1, h3, fun z => ?_, fun z => ?_, by rw [h2.length, h4.length]; exact hl, fun p o' hp ho => o _ _ (.ftup hp ho.1 ho.2 (h2.append h4))⟩
    · subst z; cases h2; exact n1 rfl
    · subst z; cases h4; exact n2 rfl
  · exact False.elim o
/-! ### range(i, j, c) -/
def rg3D (i c : Int) (n : Nat) : List D := (List.range n).map fun k => .int (i + (k : Nat) * c)
theorem jok_rangeC {lo c : Int} {n : Nat} {P : Wd → Gs → Hp → Prop} : JOk K (Itc lo c n) (rg3D lo c n) P where
  go := fun i W g H p hi => by
    show i < n
    simpa [rg3D] using hi
  stop := fun i W g H p hi => by
    show n ≤ i
    simpa [rg3D] using hi
  yld := fun i x W g H H' p hi y => by
    obtain ⟨rfl, rfl⟩ := y
    have hn : i < n := by simpa [rg3D] using hi
    exact ⟨.int (lo + (i : Nat) * c), by simp [rg3D, hn], .same (.int _)⟩
def rg3 : D → D → D → Lc → Gs → IR
  | .int i, .int j, .int (-1), l, g => if rgOk i j = true then .ok (rg3D i (-1) (i - j).toNat) none l g else .no
  | _, _, _, _, _ => .no
def iRange3 (a b c : Sm) : Im := fun l g => irBind (a l g) fun x _ l g => irBind (b l g) fun y _ l g => irBind (c l g) fun z _ l g => rg3 x y z l g
theorem si_range3 (bn : Bn X "range") (hs : Star1 X a) (hs' : Star1 X b) (hs'' : Star1 X c) (ha : SE X a ma) (hb : SE X b mb) (hc : SE X c mc) : SI X tg (.Call (.Name "range" p0) [a, b, c] [] pos) (iRange3 ma mb mc) := by
  intro σ H W l g ds gd l1 g1 R ok em k
  obtain ⟨d, f, l2, g2, e1, em2⟩ := irBind_ok em
  obtain ⟨d', f', l3, g3, e2, em3⟩ := irBind_ok em2
  obtain ⟨d'', f'', l4, g4, e3, em4⟩ := irBind_ok em3
  refine tI.of (pi_range3 bn.gl bn.mg (pa_cons pe_w (pa_cons pe_w (pa_cons pe_w pa_nil (hs'' [])) (hs' [c])) (hs [b, c])) (by rw [hs]) (by rw [hs', hs'']; rfl)) ?_
  refine ha.atV ok e1 fun v W1 H1 ok1 fr1 den => hb.atV ok1 e2 fun u W2 H2 ok2 fr2 den2 => hc.atV ok2 e3 fun t W3 H3 ok3 fr3 den3 => ?_
  unfold rg3 at em4
  split at em4
  · split at em4
    · rename_i hr
      cases em4
      cases den; cases den2; cases den3
      simp only [rgOk, Bool.and_eq_true, decide_eq_true_eq] at hr
      exact ⟨_, _, -1, _, rfl, RgC.neg (by omega) (by omega) (by omega) (by omega), k _ W3 H3 ok3 ((fr1.trans fr2).trans fr3) rfl jok_rangeC⟩
    · cases em4
  · cases em4
end
end Y
namespace Y
variable [TabC]
open PySem L2

/-! ### x or y, by what x is -/
def cOrT (a b : Sm) : Sm := fun l g => (a l g).bind fun x _ l g => match dTruth (x.cont g) with
  | .sh (.bl true) => .ok x false l g
  | .sh (.bl false) => b l g
  | _ => .no
theorem newV_bl {K : PySem.W.Frag} {W : Wd} {H H' : Hp} {v : V} {d : D} {f : Bool} {t : Bool} (n : NewV K W H v H' d f) (e : d = .bl t) : v = .bl t := by
  induction n with
  | same h => subst e; cases h; rfl
  | mid hp n ih => exact ih e
  | _ => cases e
section
variable {X : Cx} {a b : Expr} {ma mb : Sm} {pos : Pos} {rest : List Expr}
theorem se_orT (ha : SE X a ma) (hb : SE X (.BoolOp .Or (b :: rest) pos) mb) : SE X (.BoolOp .Or (a :: b :: rest) pos) (cOrT ma mb) := by
  intro σ H W l g Q ok p
  refine tW.of (pe_orT (pe_w (e := a)) pe_w) ?_
  refine ha.bindV ok p fun d f l1 g1 v W1 H1 p1 ok1 fr1 le1 den => ?_
  have c := Con.of_den ok1.rep den
  have key : ∀ t, dTruth (d.cont g1) = .sh (.bl t) → TruV X.K v H1 t := fun t e => by
    obtain ⟨k, h1, h2⟩ := c.truth (Q := fun y _ => y = .bl t) (by rw [e]; intro u H' n; exact newV_bl n rfl)
    cases h2
    exact h1
  split at p1
  · rename_i e
    exact ⟨true, key _ e, p1 v W1 H1 ok1 Fr.refl den⟩
  · rename_i e
    exact ⟨false, key _ e, hb σ H1 W1 l1 g1 Q ok1 p1⟩
  · exact False.elim p1
end
/-! ### d.get(k, e), d.get(k) -/
/-- a dict, whatever its keys -/
def isDc : D → Bool
  | .dct _ => true
  | .dcu _ => true
  | _ => false
def getE (x y z : D) (l : Lc) (g : Gs) : ER := match dget x y with
  | some (some d) => .ok d false l g
  | some none => .ok z false l g
  | none => .no
def cGet2 (o : Opd) (mk mz : Sm) : Sm := match o with
  | .ev o => fun l g => (o l g).bind fun x _ l g => if isDc (x.cont g) = true then (mk l g).bind fun y _ l g => (mz l g).bind fun z _ l g => getE (x.cont g) y z l g else .no
  | .pk i => fun l g => match slotD l i with
    | some x => if isDc (x.cont g) = true then (mk l g).bind fun y _ l g => (mz l g).bind fun z _ l g => (match slotD l i with
      | some x => getE (x.cont g) y z l g
      | none => .no) else .no
    | none => .no
section
variable {X : Cx} {K : PySem.W.Frag} {W : Wd} {H : Hp} {σ : L2.St} {l : Lc} {g : Gs} {o e f : Expr} {apos pos : Pos} {v : V} {x : D}
theorem isDc_ok (c : Con K W H v x) (h : isDc x = true) : ∃ a, v = .ref a ∧ IsD H a := by
  unfold isDc at h
  split at h
  · obtain ⟨a, kvs, rfl, h1, _⟩ := c.dct
    exact ⟨a, rfl, .inl ⟨kvs, h1⟩⟩
  · obtain ⟨a, kvs, rfl, h1, _⟩ := c.dcu
    exact ⟨a, rfl, .inr ⟨kvs, h1⟩⟩
  · cases h
theorem getE_ok {y z : D} {u w : V} {Q : VK} (ok : Ok K W l g σ H) (c : Con K W H v x) (cy : Den K W H u y) (cz : Den K W H w z) (p : EPost K W H σ l (getE x y z l g) Q) : ∃ a r, v = .ref a ∧ DGet H a u r ∧ Q (r.getD w) H := by
  unfold getE at p
  split at p
  · rename_i d e
    obtain ⟨a, r, rfl, h1, h2⟩ := dget_ok c (.den cy) e
    rcases h2 with ⟨e1, _⟩ | ⟨d', w', e1, rfl, hd⟩
    · cases e1
    · cases e1
      exact ⟨a, _, rfl, h1, p _ W H ok Fr.refl hd⟩
  · rename_i e
    obtain ⟨a, r, rfl, h1, h2⟩ := dget_ok c (.den cy) e
    rcases h2 with ⟨_, rfl⟩ | ⟨d', w', e1, _, _⟩
    · exact ⟨a, _, rfl, h1, p _ W H ok Fr.refl cz⟩
    · cases e1
  · exact False.elim p
theorem se_get2 {oo : Opd} {mk mz : Sm} (hu : X.A.units + 1 < cLine) (m : M2 X o "get" apos e f pos) (ho : SO X o oo) (he : SE X e mk) (hf : SE X f mz) : SE X (.Call (.Attribute o "get" apos) [e, f] [] pos) (cGet2 oo mk mz) := by
  intro σ H W l g Q ok p
  cases ho with
  | @ev mo ho =>
    refine tW.of (pe_dget2 hu pe_w pe_w pe_w m) ?_
    refine ho.bindV ok p fun d fl l1 g1 v W1 H1 p1 ok1 fr1 le1 den => ?_
    split at p1
    · rename_i hd
      obtain ⟨a, rfl, hD⟩ := isDc_ok (Con.of_den ok1.rep den) hd
      refine ⟨a, rfl, hD, ?_⟩
      refine he.bindV ok1 p1 fun dy fl2 l2 g2 u W2 H2 p2 ok2 fr2 le2 deny => ?_
      refine hf.bindV ok2 p2 fun dz fl3 l3 g3 w W3 H3 p3 ok3 fr3 le3 denz => ?_
      obtain ⟨a', r, e1, h1, h2⟩ := getE_ok ok3 (Con.of_den ok3.rep ((den.le le2).le le3)) (deny.le le3) denz p3
      cases e1
      exact ⟨r, h1, h2⟩
    · exact False.elim p1
  | @pk i ho =>
    simp only [cGet2] at p
    cases e1 : slotD l i with
    | none => rw [e1] at p; exact False.elim p
    | some x =>
      rw [e1] at p
      simp only at p
      split at p
      · rename_i hd
        obtain ⟨v, ev⟩ := slot_some ok.loc e1
        refine tW.of (pe_dget2 hu ho pe_w pe_w m) ⟨v, ev, ?_⟩
        obtain ⟨a, rfl, hD⟩ := isDc_ok (Con.slot ok ev e1) hd
        refine ⟨a, rfl, hD, ?_⟩
        refine he.bindV ok p fun dy fl2 l2 g2 u W2 H2 p2 ok2 fr2 le2 deny => ?_
        refine hf.bindV ok2 p2 fun dz fl3 l3 g3 w W3 H3 p3 ok3 fr3 le3 denz => ?_
        cases e3 : slotD l3 i with
        | none => rw [e3] at p3; exact False.elim p3
        | some x3 =>
          rw [e3] at p3
          obtain ⟨a', r, q1, h1, h2⟩ := getE_ok ok3 (Con.slot ok3 ev e3) (deny.le le3) denz p3
          cases q1
          exact ⟨r, h1, h2⟩
      · exact False.elim p
end

/-! ### sorted of ints, downward -/
def downI (ns : List Int) : List Int := ns.mergeSort fun a b => decide (b ≤ a)
def dSortDown : D → PR
  | .lst ds => match intsOf ds with
    | some ns => .nw (.lst ((downI ns).map .int))
    | none => .no
  | _ => .no
section
variable {X : Cx} {K : PySem.W.Frag} {W : Wd} {H : Hp} {σ : L2.St} {l : Lc} {g : Gs} {a : Expr} {pos p0 : Pos}
theorem int_dens : ∀ (ns : List Int), DenL K W H (ns.map V.int) (ns.map D.int)
  | [] => .nil
  | n :: ns => .cons (.int n) (int_dens ns)
theorem down_uniq {ns ms : List Int} (hp : ms.Perm ns) (hs : ms.Pairwise (· ≥ ·)) : ms = downI ns := by
  have h1 : (downI ns).Pairwise (fun a b => decide (b ≤ a) = true) := List.pairwise_mergeSort (fun a b c h1 h2 => by simp only [decide_eq_true_eq] at *; omega) (fun a b => by simp only [Bool.or_eq_true, decide_eq_true_eq]; omega) ns
  have h2 : (downI ns).Perm ns := List.mergeSort_perm _ _
  have h3 : ms.Pairwise (fun a b => decide (b ≤ a) = true) := hs.imp fun {a b} h => by simpa using h
  exact List.Perm.eq_of_pairwise (le := fun a b => decide (b ≤ a) = true) (fun a b _ _ h1 h2 => by simp only [decide_eq_true_eq] at *; omega) h3 h1 (hp.trans h2.symm)
theorem se_sortDown {x : Str} {o : Opd} {k : Nat} {cp kp : Pos} (bn : Bn X x) (hx : x = "sorted") (hs : Star1 X a) (ha : SO X a o) :
    SE X (.Call (.Name x p0) [a] [⟨some "reverse", .Constant (.bool true) k cp, kp⟩] pos) (cU dSortDown o) := by
  intro σ H W l g Q ok p
  obtain ⟨t, pe, ht⟩ := su (R := fun v H1 => rSortedKw X.K true [.bl true] [v] [.bl true] H1 Q) o ha ok p fun v d W1 H1 c o => by
    unfold dSortDown at o
    split at o
    · split at o
      · rename_i ns e
        obtain ⟨a, xs, rfl, h1, h2⟩ := c.lst
        rw [ints_den h2 e] at h1
        refine ⟨a, ns, rfl, rfl, h1, fun ns' q hp hb hq => ?_⟩
        rw [down_uniq hp hb]
        exact o _ _ (.lst hq (int_dens _))
      · exact False.elim o
    · exact False.elim o
  subst hx
  refine tW.of (pe_callBK (cr_sortedRev (b := true)) bn.gl bn.mg (by decide +kernel) (pa_1 pe hs) (pk_cons pe_bl pk_nil) bn.nn bn.db (by rw [hs []]; rfl) (by rw [hs []]; rfl)) ?_
  exact ht
end

/-! ### t[::k], k = 1 or -1 -/
section
open PySem.Spec PyProof.Rows
variable {prog : Program} {w : World} {A : Around} {E : Value → Shared → Prop} {s : Shared}
theorem sliceApplied_fwd {sl : Addr} {vl vu vs : Value} {n : Nat} {Q : Int × Int × Nat → Shared → Prop} (hs : s.heap.IsSliceOf sl vl vu vs) (pl : IsPart vl none) (pu : IsPart vu none) (ps : IsPart vs (some 1)) (h : Q (0, 1, n) s) :
    wpAny (model prog w) A (Builtin.Slice.sliceApplied (.ref sl) (pure (n : Int))) Q E s := by
  obtain ⟨ob, hob, hcl, hdt⟩ := hs
  unfold Builtin.Slice.sliceApplied Builtin.Slice.sliceFields
  refine wpAny_bind (wpAny_bind (wpAny_field hob hdt (x := vl) rfl (wpAny_bind (wpAny_field hob hdt (x := vu) rfl (wpAny_bind (wpAny_field hob hdt (x := vs) rfl (wpAny_pure ?_)))))))
  refine wpAny_bind (HT.slicePart_ ps ?_)
  show wpAny _ _ (if ((1 : Int) == 0) = true then _ else _) _ _ s
  rw [if_neg (by decide)]
  refine wpAny_bind (HT.slicePart_ pl (wpAny_bind (HT.slicePart_ pu (wpAny_bind (wpAny_pure ?_)))))
  have e1 : Builtin.Slice.sliceAdjust none none 1 (n : Int) = (0, (n : Int)) := rfl
  have e2 : Builtin.Slice.slicePlaces 0 (n : Int) 1 = n := by
    unfold Builtin.Slice.slicePlaces
    simp only [show ((1 : Int) > 0) by decide, if_true, Int.ediv_one]
    split <;> omega
  show wpAny _ _ (match Builtin.Slice.sliceAdjust none none 1 (n : Int) with | (lo, hi) => pure (lo, (1 : Int), Builtin.Slice.slicePlaces lo hi 1)) _ _ s
  rw [e1]
  show wpAny _ _ (pure (0, (1 : Int), Builtin.Slice.slicePlaces 0 (n : Int) 1)) _ _ s
  rw [e2]
  exact wpAny_pure h
theorem getItem_tuple_fwd {t sl : Addr} {items : Array Value} {vl vu vs : Value} {Q : Value → Shared → Prop} (ht : IsTup s.heap t items) (hs : s.heap.IsSliceOf sl vl vu vs) (pl : IsPart vl none) (pu : IsPart vu none) (ps : IsPart vs (some 1))
    (h : Q (.ref t) s) : wpAny (model prog w) A (getItem (.ref t) (.ref sl)) Q E s := by
  have ty : s.TypeIs (.ref sl) "slice" := let ⟨ob, hob, hcl, _⟩ := id hs; ⟨ob, hob, hcl⟩
  unfold getItem
  try with_reducible refine wpAny_holding ?_
  first | refine wpAny_bind (wpAny_pure ?_) | skip
  refine wpAny_bind (wpAny_sequenceKey ht.typeIs (by decide) (wpAny_bind (wpAny_callSpecial?_slot (name := Str.ofString "__getitem__") ht.typeIs PyProof.Rows.slot_tuple_getitem (wpAny_call_entry PyProof.Rows.slot_tuple_getitem ht.typeIs entry_tuple_getitem ?_ (args_tuple_getitem _ _)))))
  show wpAny _ _ (Builtin.Tuple.tupleItemsOf (.ref t) >>= _) _ _ s
  refine wpAny_bind (tupleItemsOf_ ht (wpAny_bind (wpAny_typeOf ty ?_)))
  rw [if_pos (by decide)]
  refine wpAny_bind (sliceApplied_fwd hs pl pu ps ?_)
  show wpAny _ _ (if ((0 : Int) == 0 && (1 : Int) == 1 && items.size == items.size) = true then _ else _) _ _ s
  rw [if_pos (by simp)]
  refine wpAny_bind (m := Builtin.Tuple.tupleIsExact (.ref t)) (wpAny_bind (wpAny_typeOf ht.typeIs (wpAny_pure ?_)))
  rw [if_pos (by decide)]
  refine wpAny_bind (wpAny_rule ?_)
  exact wpAny_pure ⟨_, rfl, wpAny_pure h⟩
def rStep (K : PySem.W.Frag) (x : V) (k : Int) (H : Hp) (Q : VK) : Prop := ∃ a xs, x = .ref a ∧ SqT K H a xs ∧ ((k = 1 ∧ Q (.ref a) H) ∨ (k = -1 ∧ ∀ p, H p = none → Q (.ref p) (upd H p (.tup xs.reverse))))
def rStepE (K : PySem.W.Frag) (Q : VK) (x y : V) (H : Hp) : Prop := ∃ i, y = .int i ∧ ∃ k, some i = some k ∧ rStep K x k H Q
theorem pe_step {X : Cx} {e b : Expr} {te tb : TE} {p3 pos : Pos} (he : PE X e te) (hb : PE X b tb) : PE X (.Subscript e (.Slice none none (some b) p3) pos) (fun σ H Q => te σ H fun x H1 => tb σ H1 fun y H2 => rStepE X.K Q x y H2) := by
  refine ⟨fun pins s σ H Q I h => ?_⟩
  refine Subscript_ (thn (he.run pins s σ H _ I h) fun v s1 ⟨x, H1, I1, r1, q⟩ => ?_)
  refine wpAny_Slice (thn (po_none.run pins s1 σ H1 (fun o H2 => o = none ∧ H2 = H1) I1 ⟨rfl, rfl⟩) fun vl s2 ⟨l, H2, I2, pl, el, e2⟩ => ?_)
  subst el e2
  refine thn (po_none.run pins s2 σ H2 (fun o H3 => o = none ∧ H3 = H2) I2 ⟨rfl, rfl⟩) fun vu s3 ⟨u, H3, I3, pu, eu, e3⟩ => ?_
  subst eu e3
  refine thn ((po_some hb).run pins s3 σ H3 (fun o H4 => ∃ k, o = some k ∧ rStep X.K x k H4 Q) I3 q) fun vs s4 ⟨o, H4, I4, ps, k, eo, q⟩ => ?_
  obtain ⟨a, xs, ex, hx, q2⟩ := q
  subst eo ex
  cases r1
  have J : Inv X pins σ H4 { s4 with heap := s4.heap.push { cls := .type "slice", data := .fields #[vl, vu, vs] } } := I4.kept (t' := s4.toks) fun b ob q => Heap.get?_push_of_some _ q
  show wpAny (model X.prog X.w) X.A (subscriptTail e (.Slice none none (some b) p3) (.ref a) (.ref s4.heap.objs.size)) (EP X pins σ Q) X.xe { s4 with heap := s4.heap.push { cls := .type "slice", data := .fields #[vl, vu, vs] } }
  obtain ⟨its, r, ht, hz⟩ := J.tuple hx
  refine tail_any (ops := [.ref a, .ref s4.heap.objs.size]) ht.typeIs PyProof.Rows.slot_tuple_getitem.lookup ?_ (by with_unfolding_all rfl)
  rcases q2 with ⟨rfl, q2⟩ | ⟨rfl, q2⟩
  · refine getItem_tuple_fwd ht (Heap.IsSliceOf.new _ vl vu vs) pl pu ps ?_
    exact ⟨.ref a, _, J, rfl, q2⟩
  · refine getItem_tuple_rev ht (Heap.IsSliceOf.new _ vl vu vs) pl pu ps (by rw [List.size_toArray, ← r.length]; exact hz) ?_
    exact ⟨.ref _, _, J.laid (t' := s4.toks) (o := .tup xs.reverse) (fun b ob q => Heap.get?_push_of_some _ q) (Nat.le_refl _) ⟨by rw [List.length_reverse]; exact hz, its.reverse, r.reverse, IsTup.new _ _⟩, rfl, q2 _ (J.hok.fresh (Nat.le_refl _))⟩
end
def dStep : D → D → PR
  | .tup ds, .int 1 => .sh (.tup ds)
  | .tup ds, .int (-1) => .sh (.tup ds.reverse)
  | _, _ => .no

theorem se_step {X : Cx} {a b : Expr} {oa ob : Opd} {p3 pos : Pos} (ha : SO X a oa) (hb : SO X b ob) : SE X (.Subscript a (.Slice none none (some b) p3) pos) (c2 dStep oa ob) := by
  intro σ H W l g Q ok p
  obtain ⟨ta, tb, pa, pb, t⟩ := s2 (R := fun x y H2 => rStepE X.K Q x y H2) oa ob ha hb ok p fun v u x y W2 H2 c1 c2 o => by
    unfold dStep at o
    split at o
    · cases c2.int
      cases c1 with
      | den h =>
        obtain ⟨a, xs, rfl, h1, h2⟩ := (Con.den h).tup
        exact ⟨_, rfl, _, rfl, a, xs, rfl, h1, .inl ⟨rfl, o _ _ (.same h)⟩⟩
      | ob e h => cases h
    · cases c2.int
      obtain ⟨a, xs, rfl, h1, h2⟩ := c1.tup
      exact ⟨_, rfl, _, rfl, a, xs, rfl, h1, .inr ⟨rfl, fun q hq => o _ _ (.tup hq h2.reverse)⟩⟩
    · exact False.elim o
  exact tW.of (pe_step pa pb) t

/-! ### texts -/
def dUpper (z : Str) : PR := if z.length ≤ 5592405 then .sh (.str (Txt.upper z)) else .no
theorem pm_upper {K : PySem.W.Frag} : PM0 K (fun x xs H Q => ∃ a, x = .str a ∧ xs = [] ∧ a.length ≤ 5592405 ∧ Q (.str (Txt.upper a)) H) dUpper := by
  intro z W H Q o
  unfold dUpper at o
  obtain ⟨h, o⟩ := o.ite
  exact ⟨z, rfl, rfl, h, o.str⟩
end Y
/-! {t: v}: a display of one pair, the key a tuple -/
namespace Y
variable [TabC]
open PySem L2 TL
section
open PySem.Spec PyProof.Rows
variable {X : Cx} {pos : Pos} {ke ve : Expr}
def tDisp1T (tk tv : TE) : TE := fun σ H Q => ∀ p, H p = none → tk σ (upd H p (.dT [])) fun x H1 => tv σ H1 fun y H2 => H2 p = some (.dT []) ∧ ∃ (k : List L2.Key) (b : Addr), x = .ref b ∧ H2 b = some (.tup (k.map kV)) ∧ Q (.ref p) (upd H2 p (.dT (putK [] k y)))
theorem pe_disp1T {tk tv : TE} (hu : X.A.units + 1 < cLine) (hk : PE X ke tk) (hv : PE X ve tv) : PE X (.Dict [some ke] [ve] pos) (tDisp1T tk tv) := by
  refine ⟨fun pins s σ H Q I q => ?_⟩
  have hn := I.hok.fresh (Nat.le_refl s.heap.objs.size)
  have I1 := I.laid (a := s.heap.objs.size) (o := .dT []) (h' := s.heap.push { cls := .type "dict", data := .dict #[] }) (t' := s.toks) (fun _ _ q => Heap.get?_push_of_some _ q) (Nat.le_refl _) (dt_empty s.heap I.big)
  rw [arm_eval_Dict, zip_pairTrees [some ke] [ve] X.env pos rfl rfl, dictDisplay_pairs (pairTrees [some ke] [ve] X.env pos) (by simp [pairTrees]) (by simp [pairTrees])]
  refine wpAny_bind (wpAny_standAt (wpAny_bind ?_))
  unfold subDict
  refine wpAny_bind (wpAny_alloc ?_)
  refine wpAny_bind (wpAny_holding ?_)
  rw [if_pos (by simp [pairTrees])]
  refine wpAny_bind (pairTrees_cons_walk (thn (hk.run pins _ σ _ _ I1 (q _ hn)) fun u s1 ⟨x, H1, I2, rx, q1⟩ => thn (hv.run pins s1 σ H1 _ I2 q1) fun w2 s2 ⟨y, H2, I3, ry, e, k, b, ex, eb, q2⟩ => pairTrees_nil_walk ?_))
  subst ex
  cases (show u = Value.ref b from rx)
  obtain ⟨z, hd, xs, rel, dd⟩ := dt_of I3.hok e
  have hx0 : xs = [] := by cases rel; rfl
  subst hx0
  refine wpAny_holding ?_
  rw [List.forIn_cons]
  refine wpAny_bind (wpAny_bind (wpAny_bind (wpAny_dictSet_heap (hsz := by simp) (Nat.lt_of_succ_lt hu) (key_of I3.hok eb) dd fun h' dd' hs => wpAny_pure ?_)))
  refine wpAny_pure (wpAny_pure (wpAny_pure (wpAny_pure ⟨.ref s.heap.objs.size, _, ?_, rfl, q2⟩)))
  obtain ⟨q0, es, ep, hq, h2, h3, h4, _, h5⟩ := dd'
  have hl : (putK ([] : List (List L2.Key × V)) k y).length ≤ sizeLine := by have := length_putK ([] : List (List L2.Key × V)) k y; rw [sizeLine_eq]; simp only [List.length_nil] at this; omega
  refine d_write I3 (by rw [e]; exact True.intro) hs ⟨q0, hq⟩ ⟨hl, hd, _, (rel.put k eb ry).keeps fun c ys ec => ?_, q0, es, ep, hq, h2, h3, h4, h5⟩
  rw [upd_ne (ne_of ec e (fun z => nomatch z))]
  exact ec
end
def cDct1T (mk mv : Sm) : Sm := fun l g => (mk l g).bind fun x _ l g => (mv l g).bind fun y _ l g => if (tkOf x).isSome = true then .ok (.dcu [(x, y)]) true l g else .no
section
variable {X : Cx} {pos : Pos} {ke ve : Expr} {mk mv : Sm}
theorem se_dict1T (hu : X.A.units + 1 < cLine) (hk : SE X ke mk) (hv : SE X ve mv) : SE X (.Dict [some ke] [ve] pos) (cDct1T mk mv) := by
  intro σ H W l g Q ok p
  refine tW.of (pe_disp1T hu pe_w pe_w) fun a ha => ?_
  obtain ⟨n1, n2, n3⟩ := ok.outside ha
  have ok0 := ok.alloc (o := .dT []) ha
  have t0 : Tmp W (OwnA l σ) (upd H a (.dT [])) a (.dT []) := ⟨upd_same, n1, n2, n3, .dT⟩
  obtain ⟨x, f1, l1, g1, e1, p1⟩ := p.bind
  obtain ⟨y, f2, l2, g2, e2, p2⟩ := p1.bind
  refine hk.atV ok0 e1 fun v W1 H1 ok1 fr1 den => hv.atV ok1 e2 fun u W2 H2 ok2 fr2 den2 => ?_
  obtain ⟨hkk, p3⟩ := p2.ite
  obtain ⟨kk, ek⟩ := Option.isSome_iff_exists.mp hkk
  have t2 := (t0.fr fr1).fr fr2
  obtain ⟨b, rfl, eb, ed⟩ := (Con.den (den.le (ok1.le fr2))).tk ek
  refine ⟨t2.at_, kk, b, rfl, eb, ?_⟩
  obtain ⟨ok3, fr3, L3⟩ := ok2.tmpPut (o' := .dT (putK [] kk u)) t2 trivial (((Fr.alloc ha).trans fr1).trans fr2) ha
  exact p3 (.ref a) W2 _ ok3 fr3 ⟨a, rfl, .dcu upd_same (ed ▸ (DenU.nil.put kk (den2.le L3))), t2.mu, t2.F, t2.own, .inl ha⟩
end
/-! ### d.setdefault(t, v), the keys tuples -/
section
open PySem.Spec PyProof.Rows
variable {X : Cx} {K : PySem.W.Frag} {W W1 : Wd} {H H1 : Hp} {σ σ1 : L2.St} {l l1 : Lc} {g g1 : Gs} {e o i : Expr} {me mi : Sm} {pos apos : Pos}
def rSetdT : V → List V → Hp → VK → Prop := fun x xs H Q => ∃ (a : Addr) (kvs : List (List L2.Key × V)) (k : List L2.Key) (b : Addr) (d : V), x = .ref a ∧ xs = [.ref b, d] ∧ H a = some (.dT kvs) ∧ H b = some (.tup (k.map kV)) ∧ kvs.length < sizeLine ∧
  (∀ v, valV kvs k = some v → Q v H) ∧ (valV kvs k = none → Q d (upd H a (.dT (putK kvs k d))))
theorem mt_setdT (hu : X.A.units + 1 < cLine) : MtR X "dict.setdefault" rSetdT := by
  intro pins s σ H x xs v us Q I rx rxs h
  obtain ⟨a, kvs, k, b, d, rfl, rfl, ha, hb, hl, q1, q2⟩ := h
  cases rx
  obtain ⟨u1, u2, rfl, r1, r2⟩ := vals2 rxs
  cases r1
  obtain ⟨z, hd, xs', rel, dd⟩ := dt_of I.hok ha
  have hz : xs'.length ≤ sizeLine := by rw [← Paired.length rel]; exact z
  refine call_setdefault_heap (hsz := hz) (tupleKind_room_in1 hu) (key_of I.hok hb) hd dd (fun p hp => ?_) (fun hn h' dd' hs => ?_)
  · have r := rel.val k
    rw [hp] at r
    obtain ⟨v0, ev, rv⟩ : ∃ v0, valV kvs k = some v0 ∧ RelV v0 p.2 := by
      cases ev : valV kvs k with
      | none =>
        rw [ev] at r
        exact (show False from r).elim
      | some v0 =>
        rw [ev] at r
        exact ⟨v0, rfl, r⟩
    exact ⟨v0, H, I.tok _, rv, q1 v0 ev⟩
  · have r := rel.val k
    rw [hn] at r
    have e : valV kvs k = none := by
      cases ev : valV kvs k with
      | none => rfl
      | some v0 =>
        rw [ev] at r
        exact (show False from r).elim
    have hl2 : (putK kvs k d).length ≤ sizeLine := by have := length_putK kvs k d; omega
    obtain ⟨q, es, ep, hq, h2, h3, h4, _, h5⟩ := dd'
    have I2 : Inv X pins σ (upd H a (.dT (putK kvs k d))) { s with heap := h', toks := s.toks + (tupleKind (mixKind X.prog X.w)).draws k } :=
      d_write I (by rw [ha]; exact True.intro) hs ⟨q, hq⟩ ⟨hl2, hd, _, (rel.put k hb r2).keeps (fun c ys ec => (by rw [upd_ne (ne_of ec ha (fun z => nomatch z))]; exact ec)), q, es, ep, hq, h2, h3, h4, h5⟩
    exact ⟨d, _, I2, r2, q2 e⟩
def isDcu : D → Bool
  | .dcu _ => true
  | _ => false
def muSetd : Mu
  | .dcu ps, [k, v] => if (tkOf k).isSome = true ∧ ps.length < sizeLine then (match getD ps k with
    | some x => some (.dcu ps, x)
    | none => some (.dcu (putD ps k v), v)) else none
  | _, _ => none
theorem muSetd_ok {pl : Option Pl} {xs : List D} {vs : List V} {rv : V} {Q : VK} (ok : Ok K W l g σ H) (p : EPost K W H σ l (muFin muSetd pl xs l g) Q)
    (hr : ∀ q, pl = some q → ∃ a, rv = .ref a ∧ PlA W σ a q) (hx : DenL K W H vs xs) : rSetdT rv vs H Q := by
  unfold muFin at p
  cases pl with
  | none => exact False.elim p
  | some pl =>
    simp only at p
    cases hg : getP l g pl with
    | none => rw [hg] at p; exact False.elim p
    | some d =>
      rw [hg] at p
      simp only at p
      cases hp : muSetd d xs with
      | none => rw [hp] at p; exact False.elim p
      | some dr =>
        obtain ⟨d', y⟩ := dr
        rw [hp] at p
        simp only at p
        obtain ⟨a, rfl, ha⟩ := hr pl rfl
        have ob := getP_ob ok ha hg
        unfold muSetd at hp
        split at hp
        · rename_i ps k v
          split at hp
          · rename_i hc
            obtain ⟨kk, ek⟩ := Option.isSome_iff_exists.mp hc.1
            cases hx with
            | cons d1 t1 =>
              cases t1 with
              | cons d2 t2 =>
                cases t2
                obtain ⟨b, rfl, hb, rfl⟩ := (Con.den d1).tk ek
                cases ob with
                | @dcu kvs _ h1 h2 =>
                  refine ⟨a, kvs, kk, b, _, rfl, rfl, h1, hb, by rw [h2.len]; exact hc.2, fun v0 hv => ?_, fun hn => ?_⟩
                  · rcases h2.get kk with ⟨e1, e2⟩ | ⟨v1, dd, e1, e2, dn⟩
                    · rw [e1] at hv; cases hv
                    · rw [e1] at hv; cases hv
                      rw [e2] at hp
                      cases hp
                      obtain ⟨ok', fr', L⟩ := ok.put (o := .dT kvs) (d' := .dcu ps) ha hg fun L => .dcu upd_same (DenU.le L _ h2)
                      have eH : upd H a (.dT kvs) = H := by
                        funext c
                        unfold upd
                        split
                        · rename_i ec; subst ec; exact h1.symm
                        · rfl
                      rw [eH] at ok' fr'
                      exact p _ W H ok' fr' dn
                  · rcases h2.get kk with ⟨e1, e2⟩ | ⟨v1, dd, e1, e2, dn⟩
                    · rw [e2] at hp
                      cases hp
                      obtain ⟨ok', fr', L⟩ := ok.put (o := .dT (putK kvs kk _)) (d' := .dcu (putD ps (.tup (kk.map keyD)) y)) ha hg fun L => .dcu upd_same ((DenU.le L _ h2).put kk (d2.le L))
                      exact p _ W _ ok' fr' (d2.le L)
                    · rw [e1] at hn; cases hn
          · cases hp
        · cases hp
theorem se_setd {oo : Opd} {e : Expr} {es : List Expr} {ms : List Sm} (hu : X.A.units + 1 < cLine)
    (mb : MBs X o "setdefault" (e :: es) apos pos) (ho : SO X o oo) (ha : SA X (e :: es) ms) : SE X (.Call (.Attribute o "setdefault" apos) (e :: es) [] pos) (cMu isDcu muSetd oo ms) := by
  intro σ H W l g Q ok p
  have hs : starEach (e :: es) X.env = (false, eval e X.env) :: starEach es X.env := by cases ha with | cons _ h _ => exact h
  have hpl : (backTo pos (starEach es X.env)).any (·.1) = false := by cases ha with | cons _ _ h => exact h.plain
  have tyL : ∀ {W : Wd} {H : Hp} {l : Lc} {g : Gs} {pl : Option Pl} {rv : V}, Ok X.K W l g σ H → isK isDcu l g pl = true → (∀ q, pl = some q → ∃ a, rv = .ref a ∧ PlA W σ a q) → tyV X.K "dict" rv H := by
    intro W H l g pl rv ok hk hr
    cases pl with
    | none => cases hk
    | some pl =>
      obtain ⟨a, rfl, ha⟩ := hr pl rfl
      simp only [isK] at hk
      cases hg : getP l g pl with
      | none => rw [hg] at hk; cases hk
      | some d =>
        have ob := getP_ob ok ha hg
        cases ob with
        | lst h1 h2 => rw [hg] at hk; cases hk
        | dct h1 h2 => rw [hg] at hk; cases hk
        | dcu h1 h2 => exact .inr (.inr (.inl ⟨rfl, .inr ⟨_, h1⟩⟩))
  let ta : TA := fun σ' H' R => ∃ t, PA X (e :: es) t ∧ t σ' H' R
  have hta : PA X (e :: es) ta := ⟨fun pos pins s σ' H' R I ⟨t, ht, q⟩ => ht.run pos pins s σ' H' R I q⟩
  cases ho with
  | ev ho =>
    refine tW.of (pe_bm PySem.F.plainAttrs_dict PySem.F.slot_dict_setdefault PySem.F.type_dict_setdefault (mt_setdT hu) pe_w hta mb.base mb.few mb.line hs hpl) ?_
    refine ho.bindV ok p fun d f' l1 g1 v W1 H1 p1 ok1 fr1 le1 den => ?_
    by_cases hk : isK isDcu l1 g1 (refP d) = true
    · rw [if_pos hk] at p1
      have addr : ∀ {W2 : Wd} {H2 : Hp}, Den X.K W2 H2 v d → ∀ q, refP d = some q → ∃ a, v = .ref a ∧ PlA W2 σ a q := fun {W2 H2} den q hq => by
        cases d with
        | ref n => cases hq; cases den with | ref hm => exact ⟨_, rfl, hm⟩
        | _ => cases hq
      refine ⟨tyL ok1 hk (addr den), sa (R := fun xs H2 => rSetdT v xs H2 Q) ha ok1 p1 fun ds vs W2 H2 l2 g2 p2 ok2 fr2 den2 => ?_⟩
      exact muSetd_ok ok2 p2 (addr (den.le (ok1.le fr2))) den2
    · rw [if_neg hk] at p1; exact False.elim p1
  | @pk j ho =>
    simp only [cMu] at p
    by_cases hk : isK isDcu l g (slotP l j) = true
    · rw [if_pos hk] at p
      obtain ⟨pl, epl⟩ : ∃ pl, slotP l j = some pl := by
        cases q : slotP l j with
        | none => rw [q] at hk; cases hk
        | some pl => exact ⟨pl, rfl⟩
      obtain ⟨v, ev⟩ := slotP_some ok epl
      refine tW.of (pe_bm PySem.F.plainAttrs_dict PySem.F.slot_dict_setdefault PySem.F.type_dict_setdefault (mt_setdT hu) ho hta mb.base mb.few mb.line hs hpl) ⟨v, ev, tyL ok hk (fun q hq => slotP_addr ok hq ev), ?_⟩
      exact sa (R := fun xs H2 => rSetdT v xs H2 Q) ha ok p fun ds vs W2 H2 l2 g2 p2 ok2 fr2 den2 => muSetd_ok ok2 p2 (fun q hq => slotP_addr ok2 hq ev) den2
    · rw [if_neg hk] at p; exact False.elim p
end
end Y
/-! sorted(xs, key=a lambda of one parameter): the run -/
namespace Y
variable [TabC]
open PySem L2
section
open PySem.Spec PyProof.Rows
/-- an address laid behind s -/
structure Far (X : Cx) (pins : List (Addr × Obj)) (b : Addr) : Prop where
  sz : X.s_0.heap.objs.size ≤ b
  loc : b ≠ X.env.locals
  cell : ∀ x c, X.env.cells.lookup x = some c → c ≠ b
  pin : ∀ p ∈ X.pn ++ pins, p.1 ≠ b
  stk : b ∉ frs X.stack
theorem Far.of {X : Cx} {pins : List (Addr × Obj)} {σ : L2.St} {H : Hp} {s : Shared} {b : Addr} (I : Inv X pins σ H s) (h : s.heap.objs.size ≤ b) : Far X pins b where
  sz := Nat.le_trans I.sz h
  loc := fun z => Nat.lt_irrefl _ (Nat.lt_of_lt_of_le (z ▸ I.lt : b < s.heap.objs.size) h)
  cell := fun x c e z => by
    obtain ⟨v, o, ho, _⟩ := I.cell x c e
    exact Nat.lt_irrefl _ (Nat.lt_of_lt_of_le (z ▸ Heap.lt_size ho : b < s.heap.objs.size) h)
  pin := fun p hp z => Nat.lt_irrefl _ (Nat.lt_of_lt_of_le (z ▸ Heap.lt_size (I.pin p hp).1 : b < s.heap.objs.size) h)
  stk := fun z => by
    rcases List.mem_cons.mp (I.stkSub _ z) with e | e
    · exact Nat.lt_irrefl _ (Nat.lt_of_lt_of_le (e ▸ I.lt : b < s.heap.objs.size) h)
    · exact I.nofs h e
/-- two records of ours have turned; one is from now on tracked -/
theorem Inv.took {X : Cx} {pins : List (Addr × Obj)} {σ : L2.St} {H : Hp} {s : Shared} {c a : Addr} {h' : Heap} {t' : Nat} {o : HO} (I : Inv X pins σ H s) (hc : H c = none) (ha : H a = none) (fc : Far X pins c) (fa : Far X pins a)
    (k : ∀ b u, b ≠ c → b ≠ a → s.heap.get? b = some u → h'.get? b = some u) (new : ObjOk X.prog X.w (upd H a o) h' a o) : Inv X pins σ (upd H a o) { s with heap := h', toks := t' } := by
  have nt : ∀ b u, H b = some u → b ≠ c ∧ b ≠ a := fun b u e => ⟨ne_of_none e hc, ne_of_none e ha⟩
  have ua : ∀ b u, H b = some u → upd H a o b = some u := fun b u e => by rw [upd_ne (nt b u e).2]; exact e
  have nin : ∀ b, b ∉ ([c, a] : List Addr) → b ≠ c ∧ b ≠ a := fun b n => ⟨fun z => n (by simp [z]), fun z => n (by simp [z])⟩
  refine I.step (g' := s.gens) (d' := s.drawn) (ch := [c, a]) (fun b hb => ?_) (fun b u _ _ n e _ => k b u (nin b n).1 (nin b n).2 e) (fun b u _ _ n e _ => ⟨u.slots, k b u (nin b n).1 (nin b n).2 e⟩)
    (fun b u n _ e => by rw [upd_ne (nin b n).2]; exact e) (fun b u n e => ⟨u, k b u (nin b n).1 (nin b n).2 e⟩) (fun b xs e => ua b _ e) (fun b u w e => ua b _ e) (fun b ps e => ⟨#[], by rw [ua b _ e]; simp⟩) (fun m hn => ?_) (fun b u e => ?_) I.bare
  · simp only [List.mem_cons, List.not_mem_nil, or_false] at hb
    rcases hb with rfl | rfl
    · exact ⟨.inr fc.sz, fc.loc, fc.cell, fc.pin⟩
    · exact ⟨.inr fa.sz, fa.loc, fa.cell, fa.pin⟩
  · obtain ⟨ob, es, ep, ho, r⟩ := hn
    exact ⟨ob, es, ep, k _ ob (fun z => fc.loc z.symm) (fun z => fa.loc z.symm) ho, r⟩
  · by_cases hb : b = a
    · subst hb
      rw [upd_same] at e
      cases e
      exact new
    · rw [upd_ne hb] at e
      have hn := nt b u e
      refine (I.hok b u e).stay (fun d v hd q => k d v ?_ ?_ q) (fun d q => ua d _ q) fun d xs q => ua d _ q
      · rcases hd with z | z
        · rw [z]; exact hn.1
        · exact (nt d _ z).1
      · rcases hd with z | z
        · rw [z]; exact hn.2
        · exact (nt d _ z).2
end
/-- the keys, one by one: call1 x: what a call with x comes to -/
def tKeys (call1 : V → Hp → VK → Prop) : List V → Hp → (List V → Hp → Prop) → Prop
  | [], H, Q => Q [] H
  | x :: xs, H, Q => call1 x H fun k H1 => tKeys call1 xs H1 fun ks H2 => Q (k :: ks) H2
/-- what a call of the key's function keeps -/
def KeyCall (X : Cx) (pins : List (Addr × Obj)) (σ : L2.St) (A : Around) (f : Addr) (fo : Obj) (call1 : V → Hp → VK → Prop) : Prop :=
  ∀ (t : Shared) (H : Hp) (x : V) (u : Value) (R : VK), Inv X pins σ H t → H f = none → t.heap.get? f = some fo → RelV x u → call1 x H R →
    wpAny (model X.prog X.w) A (PySem.call (.ref f) [u]) (fun r t' => ∃ v H', Inv X pins σ H' t' ∧ Un (frs X.stack) [] H H' t.heap t'.heap ∧ RelV v r ∧ R v H') (fun _ _ => False) t
/-- the end: items put in order by their keys' data -/
def KeyFin (K : PySem.W.Frag) (xs : List V) (Q : VK) : List V → Hp → Prop := fun ks H => ∃ kd : List PyData, ks.length = kd.length ∧ (∀ p ∈ ks.zip kd, Dp K H p.1 p.2) ∧ SrtOk kd ∧
  ∀ q, H q = none → Q (.ref q) (upd H q (.lst (((xs.zip kd).mergeSort (PySem.W.dataLe false (·.2))).map (·.1))))
section
open PySem.Spec PyProof.Rows
variable {X : Cx} {pins : List (Addr × Obj)} {σ : L2.St} {A : Around} {E : Value → Shared → Prop} {f : Addr} {fo : Obj} {call1 : V → Hp → VK → Prop}
theorem vals_get {xs : List V} {us : List Value} (r : Vals xs us) {j : Nat} {u : Value} (h : us[j]? = some u) : ∃ x, xs[j]? = some x ∧ RelV x u := by
  induction r generalizing j with
  | nil => simp at h
  | cons r1 r2 ih =>
    cases j with
    | zero => simp at h; subst h; exact ⟨_, rfl, r1⟩
    | succ j => obtain ⟨x, h1, h2⟩ := ih (j := j) (by simpa using h); exact ⟨x, by simpa using h1, h2⟩
theorem vals_snoc {xs : List V} {us : List Value} {x : V} {u : Value} (r : Vals xs us) (h : RelV x u) : Vals (xs ++ [x]) (us ++ [u]) := by
  induction r with
  | nil => exact .cons h .nil
  | cons r1 r2 ih => exact .cons r1 ih
theorem each_zip {xs : List V} {vs : List Value} (r : Vals xs vs) : ∀ {kd : List PyData}, kd.length = xs.length → PySem.W.EachIs (fun u (p : V × PyData) => RelV p.1 u) vs (xs.zip kd) := by
  induction r with
  | nil => intro kd h; exact .nil
  | cons r1 r2 ih =>
    intro kd h
    cases kd with
    | nil => cases h
    | cons k kd => exact .cons r1 (ih (by simpa using h))
structure KI (X : Cx) (pins : List (Addr × Obj)) (σ : L2.St) (f : Addr) (fo : Obj) (call1 : V → Hp → VK → Prop) (xs : List V) (a kS : Addr) (e1 : Nat) (Fin : List V → Hp → Prop) (i : Nat) (s' : Shared) (H' : Hp) (kA : Array Value) (e : Nat) (ks : List V) : Prop where
  inv : Inv X pins σ H' s'
  nk : H' kS = none
  na : H' a = none
  nf : H' f = none
  gk : s'.heap.get? kS = some (seqObj "list" kA e)
  ga : s'.heap.get? a = some (seqObj "list" #[] e1)
  gf : s'.heap.get? f = some fo
  rk : Vals ks kA.toList
  len : ks.length = i
  t : tKeys call1 (xs.drop i) H' fun ks' H2 => Fin (ks ++ ks') H2
theorem keyed_rest {vs : List Value} {xs : List V} {a kS : Addr} {e1 : Nat} {H0 : Hp} {s : Shared} {R : PySem.Fin → Shared → Prop} {Q : VK} (hA : A.units + 64 < cLine) (hcall : KeyCall X pins σ A f fo call1) (rv : Vals xs vs) (hZ : vs.length ≤ sizeLine) (hka : kS ≠ a) (hfk : f ≠ kS) (hfa : f ≠ a)
    (fk : Far X pins kS) (fa : Far X pins a) (ff : f ∉ frs X.stack)
    (I : Inv X pins σ H0 s) (nk : H0 kS = none) (na : H0 a = none) (nf : H0 f = none) (gk : s.heap.get? kS = some (seqObj "list" #[] 0)) (ga : s.heap.get? a = some (seqObj "list" #[] e1)) (gf : s.heap.get? f = some fo)
    (ht : tKeys call1 xs H0 (KeyFin X.K xs Q))
    (h : ∀ s' H', Inv X pins σ H' s' → Q (.ref a) H' → R (.done (.ret .none)) s') :
    wpAny (model X.prog X.w) A (ksk_rest a (.ref f) false vs.toArray e1 (.ref kS)) R E s := by
  have hlen : xs.length = vs.length := rv.length
  unfold ksk_rest
  refine wpAny_bind (wpAny_rule ?_)
  first
    | rw [List.forIn_toArray]
    | (rw [← Array.forIn_toList]; simp only [List.toList_toArray])
  refine wpAny_bind (ksk_fold (fun i s' => ∃ H' kA e ks, KI X pins σ f fo call1 xs a kS e1 (KeyFin X.K xs Q) i s' H' kA e ks) vs 0 s ⟨H0, #[], 0, [], I, nk, na, nf, gk, ga, gf, .nil, rfl, ht⟩ ?step ?done)
  case step =>
    rintro j u s1 hu ⟨H1, kA, e, ks, k⟩
    simp only [Nat.zero_add] at k ⊢
    have hj : j < vs.length := (List.getElem?_eq_some_iff.mp hu).1
    obtain ⟨x, hx, rx⟩ := vals_get rv hu
    have ed : xs.drop j = x :: xs.drop (j + 1) := by
      rw [List.drop_eq_getElem_cons (by omega)]
      congr 1
      rw [List.getElem?_eq_getElem (by omega)] at hx
      exact Option.some.inj hx
    have kt := k.t
    rw [ed] at kt
    have hz : kA.size ≤ vs.length := by
      have h1 : ks.length = kA.size := by rw [← Array.length_toList]; exact k.rk.length
      have := k.len
      omega
    refine wpAny_bind (wpAny_attempt (wpAny_mono (hcall s1 H1 x u _ k.inv k.nf k.gf rx kt) (fun r s2 he => ?_) fun _ _ hF => hF.elim))
    obtain ⟨v, H2, I2, un, rr, kt2⟩ := he
    try dsimp only
    have gk2 : s2.heap.get? kS = some (seqObj "list" kA e) := un.keep _ _ k.gk k.nk fk.stk (by simp)
    have ga2 : s2.heap.get? a = some (seqObj "list" #[] e1) := un.keep _ _ k.ga k.na fa.stk (by simp)
    have gf2 : s2.heap.get? f = some fo := un.keep _ _ k.gf k.nf ff (by simp)
    have nk2 : H2 kS = none := un.free _ _ k.gk k.nk (by simp)
    have na2 : H2 a = none := un.free _ _ k.ga k.na (by simp)
    have nf2 : H2 f = none := un.free _ _ k.gf k.nf (by simp)
    have sb := Heap.SameBut.update s2.heap kS (Obj.mapSeq (·.push r))
    obtain ⟨c2, hc2⟩ : ∃ c2, (s2.heap.update kS (Obj.mapSeq (·.push r))).get? kS = some (seqObj "list" (kA.push r) c2) := ⟨_, get?_update_seq gk2 (·.push r)⟩
    refine wpAny_bind (listUpdate_at gk2 rfl ?_ (Nat.le_trans hz hZ) (Nat.le_trans (Nat.le_of_eq (Array.size_push ..)) (Nat.succ_le_succ (Nat.le_trans hz hZ))))
    have I3 : Inv X pins σ H2 { s2 with heap := s2.heap.update kS (Obj.mapSeq (·.push r)), toks := s2.toks } :=
      I2.turned (it := kS) (fun b o hb q => (sb.2 b hb).trans q) nk2 fk.loc.symm.symm (.inr fk.sz) fk.cell fk.pin
    refine wpAny_pure ⟨rfl, H2, kA.push r, c2, ks ++ [v], I3, nk2, na2, nf2, hc2, (sb.2 a hka.symm).trans ga2, (sb.2 f hfk).trans gf2, ?_, by simp [k.len], ?_⟩
    · rw [show (kA.push r).toList = kA.toList ++ [r] by simp]
      exact vals_snoc k.rk rr
    · simpa using kt2
  case done =>
    rintro s1 ⟨H1, kA, e, ks, k⟩
    have kt := k.t
    rw [List.drop_of_length_le (by omega)] at kt
    obtain ⟨kd, hl, hd, so, q⟩ := (show KeyFin X.K xs Q (ks ++ []) H1 from kt)
    rw [List.append_nil] at hl hd
    have hks : ks.length = vs.length := by have := k.len; omega
    have hkd : kd.length = vs.length := by omega
    have hkl : kA.size = vs.length := by
      have h1 : ks.length = kA.size := by rw [← Array.length_toList]; exact k.rk.length
      have := k.len
      omega
    try dsimp only
    refine wpAny_bind (listItems_at k.gk rfl ?_)
    have er : PySem.W.EachIs (fun v (p : V × PyData) => ∃ as, Reads s1.heap v p.2 as) kA.toList (ks.zip kd) := by
      refine each_reads k.inv ?_ hd
      rw [List.map_fst_zip (by omega)]
      exact k.rk
    have er2 : PySem.W.EachIs (fun v d => ∃ as, Reads s1.heap v d as) kA.toList kd := by
      have := PySem.W.each_map (R := fun v d => ∃ as, Reads s1.heap v d as) (fun p : V × PyData => p.2) er
      rwa [List.map_snd_zip (by omega)] at this
    have kp : PySem.W.KeepsBut a (s1.heap.hide kS) s1.heap := fun b o hb q => Heap.of_hide q
    refine PySem.W.keyH_end (κ := PySem.W.dataKind s1.heap kd) (h₁ := s1.heap.hide kS) kp ?_ k.gk k.ga hka (PySem.W.SortsAt.data er2 so.al so.so fun d hd => by have := so.dp d hd; omega) hkl hZ fun h3 tk3 c k3 n3 => ?_
    · exact PySem.W.hideAll_none [kS] (by simp)
    have up : ∀ b u, b ≠ kS → b ≠ a → s1.heap.get? b = some u → h3.get? b = some u := fun b u h1 h2 q => k3 b u h2 ((Heap.hide_ne _ h1).trans q)
    have ko : PySem.W.KeyedOut false ((xs.zip kd).map (·.2)) vs (PySem.W.sortVals (PySem.W.dataKind s1.heap kd) false kA.toList vs) := by
      rw [List.map_snd_zip (by omega)]
      exact ⟨s1.heap, kA.toList, so.al, rfl, er2⟩
    have eo := PySem.W.keyedOut_each (R := fun u (p : V × PyData) => RelV p.1 u) (fun p : V × PyData => p.2) ko (each_zip rv (by omega))
    have ro := vals_each eo
    have hol : (((xs.zip kd).mergeSort (PySem.W.dataLe false fun p : V × PyData => p.2)).map (·.1)).length ≤ sizeLine := by
      rw [List.length_map, List.length_mergeSort, List.length_zip]
      omega
    refine h { s1 with heap := h3, toks := tk3 } (upd H1 a (.lst (((xs.zip kd).mergeSort (PySem.W.dataLe false fun p : V × PyData => p.2)).map (·.1)))) ?_ (q a k.na)
    refine Y.Inv.took k.inv k.nk k.na fk fa up (show ObjOk X.prog X.w _ _ _ (.lst _) from ⟨hol, _, c, ro, n3⟩)
/-- sorted(xs, key=f), f a function of ours -/
theorem call_sortedKey {H : Hp} {s : Shared} {a0 : Addr} {P : List V → Prop} {Q : VK} (hc : X.calm = true) (hu : X.A.units + 70 < cLine) (I : Inv X pins σ H s) (hcl : Coll X H a0 P) (nf : H f = none) (gf : s.heap.get? f = some fo) (ff : f ≠ X.env.locals) (ff2 : f ∉ X.fs) (hd : ∀ v, fo.data ≠ .cell v)
    (hcall : KeyCall X (pins ++ [(f, fo)]) σ X.A.in1.in1 f fo call1) (q : ∀ xs, P xs → tKeys call1 xs H (KeyFin X.K xs Q)) :
    wpAny (model X.prog X.w) X.A (PySem.call (.builtin "sorted") [.ref a0] [(Str.ofString "key", .ref f)]) (EP X pins σ Q) E s := by
  have Ip : Inv X (pins ++ [(f, fo)]) σ H s := I.pins_of fun p hp => by
    rcases List.mem_append.mp hp with hp | hp
    · exact I.pin p (List.mem_append_right _ hp)
    · rw [List.mem_singleton.mp hp]; exact ⟨gf, nf, ff, ff2, hd⟩
  have atf : ∀ {s' : Shared} {H' : Hp}, Inv X (pins ++ [(f, fo)]) σ H' s' → s'.heap.get? f = some fo ∧ H' f = none := fun {s' H'} J => by
    have := J.pin (f, fo) (List.mem_append_right _ (List.mem_append_right _ List.mem_cons_self))
    exact ⟨this.1, this.2.1⟩
  have fst : f ∉ frs X.stack := fun z => by
    rcases List.mem_cons.mp (I.stkSub _ z) with e | e
    · exact ff e
    · exact ff2 e
  refine call_function_entry_kw PyProof.Rows.kind_sorted PyProof.Rows.plain_sorted PyProof.Rows.entry_sorted (ksk_s1 _ _) ?_
  unfold Builtin.«sorted»
  refine wpAny_bind (m := checkCount "sorted" 1 1 _) (wpAny_pure ?_)
  refine wpAny_bind (hcl _ s σ X.A.in1 _ _ Ip (I.ok.hd hc) fun s' xs acc I1 hP rv hz => ?_)
  refine wpAny_bind (wpAny_newList ?_ hz)
  have hoL : (s'.heap.push (seqObj "list" acc.toArray 0)).get? s'.heap.objs.size = some (seqObj "list" acc.toArray 0) := Heap.get?_push_size _ rfl
  have I2 : Inv X (pins ++ [(f, fo)]) σ H { s' with heap := s'.heap.push (seqObj "list" acc.toArray 0), toks := s'.toks } := I1.kept fun b o e => Heap.get?_push_of_some _ e
  have fa : Far X (pins ++ [(f, fo)]) s'.heap.objs.size := Far.of I1 (Nat.le_refl _)
  have na : H s'.heap.objs.size = none := I1.hok.fresh (Nat.le_refl _)
  show wpAny _ _ _ _ _ { s' with heap := s'.heap.push (seqObj "list" acc.toArray 0) }
  refine wpAny_bind (wpAny_holding (wpAny_call_entry_kw PyProof.Rows.slot_list_sort ⟨_, hoL, rfl⟩ PyProof.Rows.entry_list_sort ?_ (ksk_l1 _ _)))
  rw [ksk_t1]
  generalize s'.heap.objs.size = a at hoL fa na ⊢
  generalize s'.heap.push (seqObj "list" acc.toArray 0) = h1 at hoL I2 ⊢
  unfold ksk_tree
  refine wpAny_bind (listItems_at hoL rfl ?_)
  have sb := Heap.SameBut.update h1 a (Obj.mapSeq fun _ => (#[] : Array Value))
  obtain ⟨e1, ho1⟩ : ∃ e1, (h1.update a (Obj.mapSeq fun _ => (#[] : Array Value))).get? a = some (seqObj "list" #[] e1) := ⟨_, get?_update_seq hoL fun _ => #[]⟩
  have I3 : Inv X (pins ++ [(f, fo)]) σ H { s' with heap := h1.update a (Obj.mapSeq fun _ => (#[] : Array Value)), toks := s'.toks } := Inv.turned (s := { s' with heap := h1, toks := s'.toks }) I2 (it := a) (fun b o hb q => (sb.2 b hb).trans q) na fa.loc (.inr fa.sz) fa.cell fa.pin
  refine wpAny_bind (listUpdate_at hoL rfl ?_ (by rw [List.size_toArray]; exact hz) (Nat.zero_le _))
  refine wpAny_bind (seqEpoch_at ho1 rfl ?_)
  refine wpAny_bind (wpAny_newTuple ?_ (by show acc.length ≤ _; exact hz))
  have I4 := I3.kept (h' := (h1.update a (Obj.mapSeq fun _ => (#[] : Array Value))).push (seqObj "tuple" acc.toArray 0)) (t' := s'.toks) fun b o e => Heap.get?_push_of_some _ e
  refine wpAny_bind (wpAny_newList ?_ (Nat.zero_le _))
  refine wpAny_holding ?_
  have I5 := I4.kept (h' := ((h1.update a (Obj.mapSeq fun _ => (#[] : Array Value))).push (seqObj "tuple" acc.toArray 0)).push (seqObj "list" #[] 0)) (t' := s'.toks) fun b o e => Heap.get?_push_of_some _ e
  have ho4 : ((h1.update a (Obj.mapSeq fun _ => (#[] : Array Value))).push (seqObj "tuple" acc.toArray 0)).get? a = some (seqObj "list" #[] e1) := Heap.get?_push_of_some _ ho1
  have ho5 : (((h1.update a (Obj.mapSeq fun _ => (#[] : Array Value))).push (seqObj "tuple" acc.toArray 0)).push (seqObj "list" #[] 0)).get? a = some (seqObj "list" #[] e1) := Heap.get?_push_of_some _ ho4
  have fk : Far X (pins ++ [(f, fo)]) ((h1.update a (Obj.mapSeq fun _ => (#[] : Array Value))).push (seqObj "tuple" acc.toArray 0)).objs.size := Far.of I4 (Nat.le_refl _)
  have nk : H ((h1.update a (Obj.mapSeq fun _ => (#[] : Array Value))).push (seqObj "tuple" acc.toArray 0)).objs.size = none := I4.hok.fresh (Nat.le_refl _)
  have gk := Heap.get?_push_size ((h1.update a (Obj.mapSeq fun _ => (#[] : Array Value))).push (seqObj "tuple" acc.toArray 0)) (o := seqObj "list" #[] 0) rfl
  have lta := Heap.lt_size ho4
  have lt4 := Heap.lt_size (atf I4).1
  generalize ((h1.update a (Obj.mapSeq fun _ => (#[] : Array Value))).push (seqObj "tuple" acc.toArray 0)).objs.size = kS at fk nk gk lta lt4 ⊢
  refine keyed_rest (s := { s' with heap := ((h1.update a (Obj.mapSeq fun _ => (#[] : Array Value))).push (seqObj "tuple" acc.toArray 0)).push (seqObj "list" #[] 0) }) (by show X.A.units + 1 + 1 + 64 < cLine; omega) hcall rv hz (Nat.ne_of_gt lta) (Nat.ne_of_lt lt4) (fun z => fa.pin (f, fo) (by simp) z) fk fa fst I5 nk na nf gk ho5 (atf I5).1 (q xs hP) fun s2 H2 J hq => ?_
  exact ⟨_, rfl, wpAny_pure ⟨_, rfl, .ref a, H2, J.unpinned, rfl, hq⟩⟩
end

/-! ### a lambda of one parameter: made -/
section
open PySem.Spec PyProof.Rows LamX NdefX
variable {X : Cx} {pins : List (Addr × Obj)} {σ : L2.St} {H : Hp} {s : Shared}
/-- what making a lambda leaves -/
structure MadeL (X : Cx) (pins : List (Addr × Obj)) (σ : L2.St) (H : Hp) (s : Shared) (scope : Scope) (params : Arguments) (body : Expr) (q : Str) (f c' : Addr) (pm ctv : Value) (H1 : Hp) (s1 : Shared) : Prop where
  inv : Inv X pins σ H1 s1
  ext : ExtN H H1
  dom : ∀ b, H b ≠ none → H1 b ≠ none
  tabs : Tbs H1
  fo : s1.heap.get? f = some (PySem.W.kla_obj "<lambda>" q params body scope (cloFrom X.env.cells scope.names []) pm c' ctv)
  ff : H1 f = none
  at_ : s.heap.objs.size ≤ f
  code : H1 c' = some (CodeO c' q)
theorem lam_make3 {c P : Addr} {params : Arguments} {body : Expr} {scope : Scope} {pos : Pos} {E : Value → Shared → Prop} {Q : Value → Shared → Prop} (I : Inv X pins σ H s) (TB : TabB X.base X.mg c P) (hcode : X.env.code = .ref c)
    (hin : (P, X.env.qual ++ "<lambda>") ∈ TabC.T) (one : ∀ p ∈ TabC.T, p.1 = P → p.2 = X.env.qual ++ "<lambda>") (hT : Tbs H) (nodef : defaultsOf params X.env = ([], [])) (caught : ∀ y ∈ scope.names, y.2 = .free → ∃ c, X.env.cells.lookup y.1 = some c)
    (k : ∀ f c' pm ctv H1 s1, MadeL X pins σ H s scope params body (X.env.qual ++ "<lambda>") f c' pm ctv H1 s1 → Q (.ref f) s1) :
    wpAny (model X.prog X.w) X.A (eval (.Lambda params body scope pos) X.env) Q E s := by
  obtain ⟨ps, atP, tri, known⟩ := hT _ hin
  have bmP : s.heap.BuiltinsAt X.mg P := TB.bm.keeps I.bk
  have heapP : s.heap.get? P = some { cls := .none, data := .fields ps } := I.hok P _ atP
  refine PySem.W.kla_eval nodef ?_
  cases found : codeAmong pos ps.toList with
  | some cv =>
    obtain ⟨c', rfl, hco⟩ := known pos cv found
    refine PySem.W.kla_makeFunctionHit (mg := X.mg) (c := c) (P := P) (ps := ps) (closure_ok caught) I.ok.glob (I.mod.glob.keeps I.bk) hcode (TB.code.keeps I.bk) heapP tri found bmP fun ctv h' tk old big => ?_
    exact k _ c' _ ctv H _ ⟨I.kept fun b o e => Heap.get?_push_of_some _ (old b o e), ExtN.refl H, fun b e => e, hT, Heap.get?_push_size _ rfl, I.hok.fresh big, big, hco⟩
  | none =>
    refine PySem.W.kla_makeFunction (mg := X.mg) (c := c) (P := P) (ps := ps) (closure_ok caught) I.ok.glob (I.mod.glob.keeps I.bk) hcode (TB.code.keeps I.bk) heapP tri found TB.gP bmP fun c' ctv h' tk old new lt rec' tb => ?_
    obtain ⟨c2, oc, vs, t, e2, hoc, hd, hv⟩ := rec'
    cases e2
    have fresh : H c' = none := I.hok.fresh new
    have big : s.heap.objs.size ≤ h'.objs.size := Nat.le_trans new (Nat.le_of_lt lt)
    have up : ExtN H (upd (upd H P (.tbl (ps ++ #[rawInt pos.line, rawInt pos.col, .ref c']))) c' (CodeO c' (X.env.qual ++ "<lambda>"))) := fun b o e n => by
      have n1 : b ≠ P := fun z => n ps (Option.some.inj (e.symm.trans (z ▸ atP)))
      rw [upd_ne (ne_of_none e fresh), upd_ne n1]
      exact e
    have el : (ps ++ #[rawInt pos.line, rawInt pos.col, .ref c']).toList = ps.toList ++ [rawInt pos.line, rawInt pos.col, .ref c'] := by simp
    have J := inv_table (t' := tk) (more := #[rawInt pos.line, rawInt pos.col, .ref c']) (h' := h'.push (PySem.W.kla_obj "<lambda>" (X.env.qual ++ "<lambda>") params body scope (cloFrom X.env.cells scope.names []) ((X.mg "__name__").getD .none) c' ctv)) I atP
      (fun b o hb e => Heap.get?_push_of_some _ (old b o hb e)) (Heap.get?_push_of_some _ tb) new ⟨oc, vs, t, Heap.get?_push_of_some _ hoc, hd, hv⟩
    refine k h'.objs.size c' _ ctv _ _ ⟨J, up, fun b e => ?_, fun p hp => ?_, Heap.get?_push_size _ rfl, ?_, big, upd_same⟩
    · unfold upd
      split
      · simp
      · split
        · simp
        · exact e
    · by_cases hb : p.1 = P
      · rw [one p hp hb, hb]
        refine ⟨_, by rw [upd_ne (ne_of_none atP fresh), upd_same], by rw [el]; exact PySem.TriplesOk_snoc _ _ _ _ tri, fun p' cv hcv => ?_⟩
        rw [el] at hcv
        rcases among_app _ tri hcv with z | z
        · obtain ⟨c0, e1, e2⟩ := known p' cv z
          exact ⟨c0, e1, up _ _ e2 codeO_ne⟩
        · exact ⟨c', z, upd_same⟩
      · obtain ⟨ps', a1, a2, a3⟩ := hT p hp
        refine ⟨ps', by rw [upd_ne (ne_of_none a1 fresh), upd_ne hb]; exact a1, a2, fun p' cv hcv => ?_⟩
        obtain ⟨c0, e1, e2⟩ := a3 p' cv hcv
        exact ⟨c0, e1, up _ _ e2 codeO_ne⟩
    · rw [upd_ne (Nat.ne_of_gt lt), upd_ne (Nat.ne_of_gt (Nat.lt_of_lt_of_le (Heap.lt_size heapP) big))]
      exact I.hok.fresh big
end
end Y
/-! sorted(xs, key=a lambda of one parameter): its meaning -/
namespace Y
variable [TabC]
open PySem L2
def loc0 (n : Nat) (ds : List D) : Lc := ds.map (fun d => some (.val d)) ++ List.replicate (n - ds.length) none
theorem loc0_val {n : Nat} {ds : List D} {i : Nat} {x : SV} (h : (loc0 n ds)[i]? = some (some x)) : ∃ d, ds[i]? = some d ∧ x = .val d := by
  unfold loc0 at h
  by_cases hi : i < ds.length
  · rw [List.getElem?_append_left (by simpa using hi), List.getElem?_map] at h
    rw [List.getElem?_eq_getElem hi] at h ⊢
    cases h
    exact ⟨_, rfl, rfl⟩
  · rw [List.getElem?_append_right (by simpa using hi)] at h
    by_cases hj : i - (ds.map fun d => some (SV.val d)).length < n - ds.length
    · rw [List.getElem?_replicate, if_pos hj] at h; cases h
    · rw [List.getElem?_replicate, if_neg hj] at h; cases h
theorem loc0_ok {K : PySem.W.Frag} {W : Wd} {G : Gs} {H : Hp} {vs : List V} {ds : List D} {N : List Str} (rep : Rep K W G H) (h : DenL K W H vs ds) (hl : ds.length ≤ N.length) : Ok K W (loc0 N.length ds) G (L2.start N vs) H := by
  refine ⟨rep, ⟨?_, fun i d e => ?_, fun i d e => ?_, fun i j d e a h1 => ?_⟩⟩
  · unfold loc0 L2.start
    simp [h.length]
  · obtain ⟨d', e1, e2⟩ := loc0_val e
    cases e2
    obtain ⟨v, ev, den⟩ := h.get e1
    refine ⟨v, ?_, den⟩
    unfold L2.start
    rw [List.getElem?_append_left (by simpa using (List.getElem?_eq_some_iff.mp ev).1), List.getElem?_map, ev]
    rfl
  · obtain ⟨d', e1, e2⟩ := loc0_val e
    cases e2
  · obtain ⟨d', e1, e2⟩ := loc0_val h1
    cases e2
theorem no_own0 {n : Nat} {ds : List D} {σ : L2.St} {a : Addr} : ¬ OwnA (loc0 n ds) σ a := fun ⟨i, d, h, _⟩ => by
  obtain ⟨_, _, e⟩ := loc0_val h
  cases e
/-! ### the lambda called -/
section
open PySem.Spec PyProof.Rows LamX NdefX
def lamP : Arguments → Option Str
  | ⟨[], [a], none, [], [], none, []⟩ => some a.arg
  | _ => none
theorem bind_one {a : Arg} {q : Str} {body : Expr} {scope : Scope} {cl : List (Str × Addr)} {pm cv ctv u : Value} :
    bindArgs (PySem.W.kla_fn "<lambda>" q ⟨[], [a], none, [], [], none, []⟩ body scope cl pm cv ctv) ⟨[u], []⟩ = pure [(a.arg, u)] := by
  have e : ([(a.arg, u)] : List (Str × Value)).lookup a.arg = some u := by simp [List.lookup]
  unfold bindArgs
  simp [e, seqItems?, List.drop]
  rfl
theorem lamP_bind {params : Arguments} {x : Str} (h : lamP params = some x) {q : Str} {body : Expr} {scope : Scope} {cl : List (Str × Addr)} {pm cv ctv u : Value} :
    bindArgs (PySem.W.kla_fn "<lambda>" q params body scope cl pm cv ctv) ⟨[u], []⟩ = pure [(x, u)] := by
  unfold lamP at h
  split at h
  · cases h; exact bind_one
  · cases h
theorem lamP_def {params : Arguments} {x : Str} (h : lamP params = some x) (env : Env) : defaultsOf params env = ([], []) := by
  unfold lamP at h
  split at h
  · rfl
  · cases h
/-- what a lambda means: its body over the parameter, the captured names -/
def lamF (m : Sm) : Fn := fun ds g => m (loc0 ds.length ds) g
theorem lam_call {P : Program} {w : World} {K : PySem.W.Frag} {mg : Str → Option Value} {base : Heap} {x : Str} {fr : List Str} {F : NF} {f : Addr} {k : Nat} {params : Arguments} {body : Expr} {m : Sm} {pm ctv : Value} {A : Around} {outer : List Env} {s : Shared} {H : Hp} {u : Value} {v : V} {ws : List V} {R : VK}
    (hP : lamP params = some x) (S : NScope (x :: fr) [x] fr F.scope) (hr : Room (k + 1) A) (gd : A.guards = some []) (e0 : Env0 P w K mg base A outer s H) (ho : s.heap.get? f = some (PySem.W.kla_obj "<lambda>" F.qual params body F.scope F.cl pm F.c ctv)) (hc : H F.c = some (CodeO F.c F.qual))
    (C : CellsAt F.cl fr (ws.map some) s.heap H) (r : L2.RelV v u) (hbody : Room k (A.deeper (envF F f s.heap.objs.size)) → (A.deeper (envF F f s.heap.objs.size)).guards = some [] → SE (ncx CX0 P w K mg base (x :: fr) F f A outer s H E0).nox body m) (hsp : spD K (lamF m) (v :: ws) H R E0) :
    codeAny (model P w) A (.call (.ref f) ⟨[u], []⟩) (CR CX0 outer P w H s R E0) s := by
  have lim : s.heap.NoLimit := e0.mod.nolimit.keeps fun b o e => (e0.bs b o e).1
  have hwl : ws.length = fr.length := by have := C.len; simpa using this
  refine PySem.W.kla_callFunE hr.depth ho rfl S.co S.gen rfl (codeO_at e0.hok hc) ?_
  rw [lamP_bind hP]
  refine wpAny_pure (wpAny_newFunctionEnv S.nocell (fun y hy => ?_) (fun h₁ hns hsb => ⟨lim.fresh _ hsb, ?_⟩) S.kind)
  · rw [List.mem_singleton.mp hy]
    exact S.par x List.mem_cons_self
  show codeAny _ _ (.expr body (envF F f s.heap.objs.size)) _ _
  have kp : ∀ b o, s.heap.get? b = some o → h₁.get? b = some o := fun b o e => hsb.extBut b o (Nat.ne_of_lt (Heap.lt_size e)) (Heap.get?_push_of_some _ e)
  have I : Inv (ncx CX0 P w K mg base (x :: fr) F f A outer s H E0) [] (startF (x :: fr) [v] (ws.map some)) H { s with heap := h₁, toks := s.toks + ([(x, u)] : List (Str × Value)).length } := inv_startN (ps := [x]) (us := [u]) S hr.hd e0 rfl (.cons r .nil) C hns kp
  have es : startF (x :: fr) [v] (ws.map some) = L2.start (x :: fr) (v :: ws) := by
    unfold startF L2.start
    simp [hwl]
  rw [es] at I
  obtain ⟨W, g, ds, den, rep, cp⟩ := hsp
  have hdl : ds.length = (x :: fr).length := by rw [← den.length]; simp [hwl]
  have ok : Ok K W (loc0 ds.length ds) g (L2.start (x :: fr) (v :: ws)) H := by rw [hdl]; exact loc0_ok rep den (by omega)
  have key : tW (ncx CX0 P w K mg base (x :: fr) F f A outer s H E0).nox body (L2.start (x :: fr) (v :: ws)) H R := by
    refine hbody (hr.deeper _) gd _ H W _ g R ok ?_
    unfold lamF at cp
    have fr0 : ∀ {W' : Wd} {H' : Hp} {O' : Addr → Prop}, Fr W H (OwnA (loc0 ds.length ds) (L2.start (x :: fr) (v :: ws))) W' H' O' → Fr W H noOwn W' H' noOwn := fun {W' H' O'} f => by
      refine ⟨?_, f.sub, fun a h => ?_, fun a o h nt h1 _ h3 => f.keep a o h nt h1 no_own0 h3, f.dom, fun _ z => z.elim, fun a o h nt h1 _ => f.keepF a o h nt h1 no_own0⟩
      · obtain ⟨m, e, hm⟩ := f.mu
        exact ⟨m, e, fun a ha => (hm a ha).elim .inl fun z => (no_own0 z).elim⟩
      · rcases f.new a h with q | q | q
        · exact .inl q
        · exact .inr (.inl q)
        · exact (no_own0 q).elim
    cases hm : m (loc0 ds.length ds) g with
    | ok d fl l' g' =>
      rw [hm] at cp
      intro v' W' H' ok' f' r'
      refine cp v' W' H' ok'.rep (fr0 f') ?_
      cases fl with
      | false => exact r'
      | true =>
        obtain ⟨a, e, ob, n1, n2, n3, z⟩ := r'
        exact ⟨a, e, ob, n1, n2, fun z => z, z.elim .inl fun z => (no_own0 z).elim⟩
    | ex c d l g => rw [hm] at cp; exact False.elim cp
    | no => rw [hm] at cp; exact False.elim cp
  refine PySem.W.kla_codeExpr (wpAny_mono (key [] _ (I.wish _)) (fun v' s' hq => ?_) fun e s' hq => False.elim hq)
  obtain ⟨w', H', J', rv, q⟩ := hq
  exact ⟨w', H', J'.os, J'.bare, J'.base, J'.hok, rv, q⟩
end
end Y
/-! sorted(xs, key=a lambda of one parameter), by content -/
namespace Y
variable [TabC]
open PySem L2
def itemsK : D → Option (List D)
  | .lst ds => some ds
  | .clst ds => some ds
  | .tup ds => some ds
  | .dct ps => some (ps.map (·.1))
  | .dcu ps => some (ps.map (·.1))
  | _ => none
/-- the own things of these slots become shared -/
def shareL : Lc → List Nat → Lc
  | l, [] => l
  | l, j :: js => shareL (match l[j]? with
    | some (some (.own d)) => l.set j (some (.val d))
    | _ => l) js
def capsL (l : Lc) : List Nat → Option (List D)
  | [] => some []
  | j :: js => match l[j]?, capsL l js with
    | some (some (.val d)), some ds => some (d :: ds)
    | _, _ => none
def keysL (F : Fn) (cs : List D) : List D → Gs → Option (List D × Gs)
  | [], g => some ([], g)
  | d :: ds, g => match F (d :: cs) g with
    | .ok k false _ g1 => (keysL F cs ds g1).map fun p => (k :: p.1, p.2)
    | _ => none
def sortK (ks ds : List D) : List D := ((ds.zip ks).mergeSort fun a b => leD a.2 b.2).map (·.1)
def sortKG (js : List Nat) (F : Fn) (x : D) (l : Lc) (g : Gs) : ER := match itemsK (x.cont g), capsL l js with
  | some ds, some cs => (match keysL F cs ds g with
    | some (ks, g1) => if srtOk ks = true then .ok (.lst (sortK ks ds)) true l g1 else .no
    | none => .no)
  | _, _ => .no
def cSortK (js : List Nat) (F : Fn) : Opd → Sm
  | .ev m => fun l g => (m l g).bind fun x _ l g => sortKG js F x (shareL l js) g
  | .pk i => fun l g => match slotD (shareL l js) i with
    | some x => sortKG js F x (shareL l js) g
    | none => .no
section
open PySem.Spec PyProof.Rows LamX NdefX
variable {X : Cx} {K : PySem.W.Frag} {W W1 : Wd} {H H1 : Hp} {σ : L2.St} {l l1 : Lc} {g g1 : Gs}
theorem Ok.shareL (js : List Nat) : ∀ {W : Wd} {l : Lc}, Ok K W l g σ H → ∃ W', Ok K W' (shareL l js) g σ H ∧ Fr W H (OwnA l σ) W' H (OwnA (shareL l js) σ) := by
  induction js with
  | nil => intro W l ok; exact ⟨W, ok, Fr.refl⟩
  | cons j js ih =>
    intro W l ok
    unfold Y.shareL
    split
    · rename_i d e
      obtain ⟨a, e1, ob, n1, n2⟩ := ok.loc.own j d e
      obtain ⟨ok', fr'⟩ := ok.letGo e e1 ob n1
      obtain ⟨W2, ok2, fr2⟩ := ih ok'
      exact ⟨W2, ok2, fr'.trans fr2⟩
    · exact ih ok
theorem capsL_get {js : List Nat} {cs : List D} (h : capsL l js = some cs) (R : RepL K W l σ H) : ∃ ws : List V, js.map (slotAt σ) = ws.map some ∧ DenL K W H ws cs := by
  induction js generalizing cs with
  | nil => cases h; exact ⟨[], rfl, .nil⟩
  | cons j js ih =>
    unfold capsL at h
    split at h
    · rename_i d ds e1 e2
      cases h
      obtain ⟨ws, h1, h2⟩ := ih e2
      obtain ⟨v, ev, den⟩ := R.val j d e1
      exact ⟨v :: ws, by rw [List.map_cons, List.map_cons, h1, slotAt_of ev], .cons den h2⟩
    · cases h
/-- the tables alone were written -/
theorem Ok.ext (ok : Ok K W l g σ H) (e : ExtN H H1) (t : Tbs H1) : Ok K W l g σ H1 ∧ Le W H W H1 := by
  have kn : ∀ a o, H a = some o → Plain o → H1 a = some o := fun a o h p => e a o h p.1
  have L : Le W H W H1 := ⟨⟨[], by simp⟩, fun _ h => h, fun a o h hf => by
    obtain ⟨o', e1, p⟩ := ok.rep.fd a hf
    rw [h] at e1; cases e1
    exact .inl (kn a o h p), fun a xs h => e a _ h (fun ps z => by cases z), fun a o u h => e a _ h (fun ps z => by cases z)⟩
  have ka : ∀ {a : Addr} {d : D}, ObR K W H a d → ∀ o, H a = some o → H1 a = some o := fun {a d} ob o h => e a o h (ob.nt h)
  refine ⟨⟨⟨ok.rep.len, ok.rep.nd, fun n a b h1 h2 => ?_, ok.rep.dis, fun a h => ?_, t⟩, ⟨ok.loc.len, fun i d h => ?_, fun i d h => ?_, ok.loc.dist⟩⟩, L⟩
  · have bx := ok.rep.ob n a b h1 h2
    cases bx with
    | box ob => exact .box (ob.le L (ka ob))
  · obtain ⟨o, h1, p⟩ := ok.rep.fd a h
    exact ⟨o, kn a o h1 p, p⟩
  · obtain ⟨v, h1, den⟩ := ok.loc.val i d h
    exact ⟨v, h1, den.le L⟩
  · obtain ⟨a, h1, ob, n1, n2⟩ := ok.loc.own i d h
    exact ⟨a, h1, ob.le L (ka ob), n1, n2⟩
theorem Fr.ext {O : Addr → Prop} (e : ExtN H H1) (dm : ∀ b, H b ≠ none → H1 b ≠ none) : Fr W H O W H1 O :=
  ⟨⟨[], by simp, by simp⟩, fun _ h => h, fun _ h => .inl h, fun a o h nt _ _ _ => e a o h nt, dm, fun _ h => .inl h, fun a o h nt _ _ => .inl (e a o h nt)⟩
/-- a code object is nobody's -/
theorem Fr.codeO {O' : Addr → Prop} {W' : Wd} {H' : Hp} {c : Addr} {q : Str} (ok : Ok K W l g σ H) (f : Fr W H (OwnA l σ) W' H' O') (h : H c = some (CodeO c q)) : H' c = some (CodeO c q) := by
  refine f.keep c _ h (fun ps => codeO_ne ps) (fun hm => ?_) (fun ho => ?_) fun hf => ?_
  · obtain ⟨n, hn⟩ := List.getElem?_of_mem hm
    have hl : n < g.length := by rw [← ok.rep.len]; exact (List.getElem?_eq_some_iff.mp hn).1
    have bx := ok.rep.ob n c g[n] hn (by simp [hl])
    generalize g[n] = b at bx
    cases bx with
    | box ob =>
      obtain ⟨o, e, p⟩ := ob.plain
      rw [h] at e; cases e
      exact p.2 _ _ rfl
  · obtain ⟨i, d, h1, h2⟩ := ho
    obtain ⟨a, e, ob, _⟩ := ok.loc.own i d h1
    rw [h2] at e; cases e
    obtain ⟨o, e, p⟩ := ob.plain
    rw [h] at e; cases e
    exact p.2 _ _ rfl
  · obtain ⟨o, e, p⟩ := ok.rep.fd c hf
    rw [h] at e; cases e
    exact p.2 _ _ rfl
/-- the keys, reckoned -/
theorem keys_go {F : Fn} {cs : List D} {ws : List V} {c' : Addr} {q : Str} {Q : List V → Hp → Prop} : ∀ {ds : List D} {xs : List V} {ks : List D} {g g' : Gs} {W : Wd} {H : Hp}, Ok K W l g σ H → H c' = some (CodeO c' q) → DenL K W H xs ds → DenL K W H ws cs → keysL F cs ds g = some (ks, g') →
    (∀ kvs W2 H2, Ok K W2 l g' σ H2 → Fr W H (OwnA l σ) W2 H2 (OwnA l σ) → Le W H W2 H2 → DenL K W2 H2 kvs ks → Q kvs H2) → tKeys (fun x H R => H c' = some (CodeO c' q) ∧ spD K F (x :: ws) H R E0) xs H Q := by
  intro ds
  induction ds generalizing Q with
  | nil =>
    intro xs ks g g' W H ok hc dx dw hk k
    cases dx
    cases hk
    exact k [] W H ok Fr.refl Le.refl .nil
  | cons d ds ih =>
    intro xs ks g g' W H ok hc dx dw hk k
    cases dx with
    | @cons x xs _ _ d1 d2 =>
    unfold keysL at hk
    split at hk
    · rename_i kd l0 g1 e1
      rw [Option.map_eq_some_iff] at hk
      obtain ⟨⟨ks1, g2⟩, e2, e3⟩ := hk
      cases e3
      refine ⟨hc, W, g, d :: cs, .cons d1 dw, ok.rep, CPost.call ok ?_⟩
      rw [e1]
      intro v W1 H1 ok1 fr1 den1
      have L1 := ok.le fr1
      refine ih ok1 (fr1.codeO ok hc) (DenL.le L1 _ d2) (DenL.le L1 _ dw) e2 fun kvs W2 H2 ok2 fr2 L2 den2 => ?_
      exact k (v :: kvs) W2 H2 ok2 (fr1.trans fr2) (ok.le (fr1.trans fr2)) (.cons (Den.le L2 _ den1) den2)
    · cases hk
theorem Con.coll {W : Wd} {H : Hp} {v : V} {d : D} {ds : List D} (c : Con X.K W H v d) (e : itemsK d = some ds) : ∃ (a : Addr) (P : List V → Prop), v = .ref a ∧ Coll X H a P ∧ ∀ xs, P xs → DenL X.K W H xs ds := by
  cases d with
  | lst _ => cases e; obtain ⟨a, xs, rfl, h1, h2⟩ := c.lst; exact ⟨a, _, rfl, Coll.list h1, fun _ e => by rw [e]; exact h2⟩
  | clst _ => cases e; obtain ⟨a, xs, rfl, h1, h2⟩ := c.clst; exact ⟨a, _, rfl, Coll.list h1.sq, fun _ e => by rw [e]; exact h2⟩
  | tup _ => cases e; obtain ⟨a, xs, rfl, h1, h2⟩ := c.tup; exact ⟨a, _, rfl, Coll.tup h1, fun _ e => by rw [e]; exact h2⟩
  | dct _ => cases e; obtain ⟨a, kvs, rfl, h1, h2⟩ := c.dct; exact ⟨a, _, rfl, Coll.dK h1, fun _ e => by rw [e]; exact h2.keys⟩
  | dcu _ => cases e; obtain ⟨a, kvs, rfl, h1, h2⟩ := c.dcu; exact ⟨a, _, rfl, Coll.dT h1, fun _ ⟨bs, hb, e⟩ => by rw [e]; exact h2.keys hb⟩
  | _ => cases e
theorem denL_trip {W W2 : Wd} {H H2 : Hp} : ∀ {xs : List V} {ds : List D} {kvs : List V} {ks : List D}, DenL K W H xs ds → DenL K W2 H2 kvs ks → ds.length = ks.length → ∃ ps : List ((V × D) × (V × D)), xs = ps.map (·.1.1) ∧ ds = ps.map (·.1.2) ∧ kvs = ps.map (·.2.1) ∧ ks = ps.map (·.2.2) ∧ (∀ p ∈ ps, Den K W H p.1.1 p.1.2) ∧ ∀ p ∈ ps, Den K W2 H2 p.2.1 p.2.2
  | _, _, _, _, .nil, .nil, _ => ⟨[], rfl, rfl, rfl, rfl, by simp, by simp⟩
  | _, _, _, _, .nil, .cons _ _, h => by simp at h
  | _, _, _, _, .cons _ _, .nil, h => by simp at h
  | _, _, _, _, .cons (v := v) (d := d) a t, .cons (v := u) (d := e) b r, h => by
    obtain ⟨ps, h1, h2, h3, h4, h5, h6⟩ := denL_trip t r (by simpa using h)
    refine ⟨((v, d), (u, e)) :: ps, by rw [h1]; rfl, by rw [h2]; rfl, by rw [h3]; rfl, by rw [h4]; rfl, fun p hp => ?_, fun p hp => ?_⟩
    · rcases List.mem_cons.mp hp with rfl | hp
      · exact a
      · exact h5 p hp
    · rcases List.mem_cons.mp hp with rfl | hp
      · exact b
      · exact h6 p hp
theorem keysL_len {F : Fn} {cs : List D} : ∀ {ds ks : List D} {g g' : Gs}, keysL F cs ds g = some (ks, g') → ks.length = ds.length
  | [], _, _, _, h => by cases h; rfl
  | d :: ds, ks, g, g', h => by
    unfold keysL at h
    split at h
    · rw [Option.map_eq_some_iff] at h
      obtain ⟨⟨ks1, g2⟩, e2, e3⟩ := h
      cases e3
      simp [keysL_len e2]
    · cases h
theorem sort_fin {W2 : Wd} {H2 : Hp} {xs kvs : List V} {ds ks : List D} {Q : VK} (dx : DenL X.K W2 H2 xs ds) (dk : DenL X.K W2 H2 kvs ks) (hl : ks.length = ds.length) (hs : srtOk ks = true) (k : ∀ v H', NewV X.K W2 H2 v H' (.lst (sortK ks ds)) true → Q v H') : KeyFin X.K xs Q kvs H2 := by
  obtain ⟨ps, rfl, rfl, rfl, rfl, h1, h2⟩ := denL_trip dx dk hl.symm
  have so := srtOk_ok hs
  have hpy : ∀ d ∈ ps.map (·.2.2), d.py.isSome = true := by
    simp only [srtOk, Bool.and_eq_true, List.all_eq_true] at hs
    exact fun d hd => (hs.1.1 d hd).1
  refine ⟨(ps.map (·.2.2)).map pyD, by simp, fun p hp => ?_, so, fun q hq => ?_⟩
  · rw [List.map_map, List.zip_map'] at hp
    obtain ⟨r, hr, rfl⟩ := List.mem_map.mp hp
    obtain ⟨d, e⟩ := Option.isSome_iff_exists.mp (hpy _ (List.mem_map_of_mem hr))
    have := (h2 r hr).dp r.2.2 d e
    show Dp X.K H2 r.2.1 (pyD r.2.2)
    unfold pyD
    rw [e]
    exact this
  · have e1 : ((ps.map (·.1.1)).zip ((ps.map (·.2.2)).map pyD)).mergeSort (PySem.W.dataLe false (·.2)) = (ps.mergeSort fun a b => leD a.2.2 b.2.2).map fun p => (p.1.1, pyD p.2.2) := by
      rw [List.map_map, List.zip_map']
      exact (List.map_mergeSort (r := fun a b : (V × D) × (V × D) => leD a.2.2 b.2.2) (f := fun p : (V × D) × (V × D) => (p.1.1, pyD p.2.2)) fun a _ b _ => rfl).symm
    have e2 : sortK (ps.map (·.2.2)) (ps.map (·.1.2)) = (ps.mergeSort fun a b => leD a.2.2 b.2.2).map (·.1.2) := by
      unfold sortK
      rw [List.zip_map', ← List.map_mergeSort (r := fun a b : (V × D) × (V × D) => leD a.2.2 b.2.2) (f := fun p : (V × D) × (V × D) => (p.1.2, p.2.2)) fun a _ b _ => rfl, List.map_map]
      rfl
    rw [e1, List.map_map]
    rw [e2] at k
    refine k _ _ (.lst hq ?_)
    have h' : ∀ p ∈ ps.mergeSort (fun a b => leD a.2.2 b.2.2), Den X.K W2 H2 p.1.1 p.1.2 := fun p hp => h1 p (List.mem_mergeSort.mp hp)
    have go : ∀ qs : List ((V × D) × (V × D)), (∀ p ∈ qs, Den X.K W2 H2 p.1.1 p.1.2) → DenL X.K W2 H2 (qs.map (·.1.1)) (qs.map (·.1.2)) := fun qs => by
      induction qs with
      | nil => intro _; exact .nil
      | cons q qs ih => intro h; exact .cons (h q List.mem_cons_self) (ih fun p hp => h p (List.mem_cons_of_mem _ hp))
    exact go _ h'
/-- what is known of a lambda that a def makes -/
structure LamK (X : Cx) (x : Str) (fr : List Str) (js : List Nat) (params : Arguments) (body : Expr) (scope : Scope) (m : Sm) : Prop where
  par : lamP params = some x
  sc : NScope (x :: fr) [x] fr scope
  free : ∀ y ∈ scope.names, y.2 = .free → X.env.scope.names.lookup y.1 = some .cell ∨ X.env.scope.names.lookup y.1 = some .free
  frk : ∀ y ∈ fr, (y, NameKind.free) ∈ scope.names
  js : js.map (fun j => X.N[j]?) = fr.map some
  mkd : ∃ c P, TabB X.base X.mg c P ∧ X.env.code = .ref c ∧ (P, X.env.qual ++ "<lambda>") ∈ TabC.T ∧ ∀ p ∈ TabC.T, p.1 = P → p.2 = X.env.qual ++ "<lambda>"
  gd : X.A.guards = some []
  body : ∃ k, Room (k + 3) X.A ∧ ∀ (F : NF) (f : Addr) (A : Around) (outer : List Env) (s : Shared) (H : Hp), F.scope = scope → Room k (A.deeper (envF F f s.heap.objs.size)) → (A.deeper (envF F f s.heap.objs.size)).guards = some [] → SE (ncx CX0 X.prog X.w X.K X.mg X.base (x :: fr) F f A outer s H E0).nox body m
theorem Env0.in1 {P : Program} {w : World} {K : PySem.W.Frag} {mg : Str → Option Value} {base : Heap} {A : Around} {outer : List Env} {s : Shared} {H : Hp} (e : Env0 P w K mg base A outer s H) : Env0 P w K mg base A.in1 outer s H :=
  ⟨e.frames, e.mod, e.bs, e.bsz, e.funs, e.frf, e.hok, e.bare⟩
theorem lam_key {x : Str} {fr : List Str} {js : List Nat} {params : Arguments} {body : Expr} {scope : Scope} {m : Sm} {pins : List (Addr × Obj)} {f c' : Addr} {pm ctv : Value} {ws : List V} (L : LamK X x fr js params body scope m) (ok : X.Ok) (hw : js.map (slotAt σ) = ws.map some) :
    KeyCall X pins σ X.A.in1.in1 f (PySem.W.kla_obj "<lambda>" (X.env.qual ++ "<lambda>") params body scope (cloFrom X.env.cells scope.names []) pm c' ctv) (fun x H R => H c' = some (CodeO c' (X.env.qual ++ "<lambda>")) ∧ spD X.K (lamF m) (x :: ws) H R E0) := by
  intro t H v u R I hf gf rv ⟨hc, hsp⟩
  obtain ⟨k, hr, hb⟩ := L.body
  have C := cells_of I (Caps.made ok L.free L.frk L.js)
  rw [hw] at C
  have r2 : Room (k + 1) X.A.in1.in1 := (Room.in1 (Room.in1 (k := k + 2) hr))
  let F : NF := ⟨"<lambda>", X.env.qual ++ "<lambda>", params, [], scope, cloFrom X.env.cells scope.names [], c'⟩
  refine wpAny_call (codeAny_mono (lam_call (F := F) (k := k) L.par L.sc r2 L.gd (Env0.in1 (Env0.in1 I.env0)) gf hc C rv (fun hr' gd' => hb F f _ _ _ _ rfl hr' gd') hsp) fun r s' hq => ?_)
  cases r with
  | error e => exact False.elim hq
  | ok fl =>
    cases fl with
    | ret w =>
      obtain ⟨v', H', os, bare, un, hok, r', q⟩ := hq
      exact ⟨v', H', I.call' os un hok bare (fun b z => absurd z (by simp)), un, r', q⟩
    | next => exact False.elim hq
    | brk => exact False.elim hq
    | cont => exact False.elim hq
theorem se_sortK {oo : Opd} {e : Expr} {x : Str} {fr : List Str} {js : List Nat} {params : Arguments} {body : Expr} {scope : Scope} {m : Sm} {p0 lp kp pos : Pos} (hcm : X.calm = true) (hu : X.A.units + 70 < cLine) (bn : Bn X "sorted") (hs : Star1 X e) (L : LamK X x fr js params body scope m) (ho : SO X e oo) :
    SE X (.Call (.Name "sorted" p0) [e] [⟨some "key", .Lambda params body scope lp, kp⟩] pos) (cSortK js (lamF m) oo) := by
  intro σ H W l g Q ok p pins s I
  have core : ∀ {v : V} {x : D} {W1 : Wd} {H1 : Hp} {l1 : Lc} {g1 : Gs} {u : Value} {s1 : Shared}, Ok X.K W1 l1 g1 σ H1 → Con X.K W1 H1 v (x.cont g1) → EPost X.K W1 H1 σ l1 (sortKG js (lamF m) x l1 g1) Q → Inv X pins σ H1 s1 → RelV v u →
      wpAny (model X.prog X.w) X.A (evalAll ((backToKw pos (keywordEach [⟨some "key", .Lambda params body scope lp, kp⟩] X.env)).map (·.2)))
        (fun kvs s2 => wpAny (model X.prog X.w) X.A (PySem.call (.builtin "sorted") [u] (((backToKw pos (keywordEach [⟨some "key", .Lambda params body scope lp, kp⟩] X.env)).filterMap (·.1)).zip kvs)) (EP X pins σ Q) X.xe s2) X.xe s1 := by
    intro v x W1 H1 l1 g1 u s1 ok1 con p1 I1 rv
    unfold sortKG at p1
    split at p1
    · rename_i ds cs e1 e2
      split at p1
      · rename_i ks g2 e3
        by_cases hk : srtOk ks = true
        · rw [if_pos hk] at p1
          obtain ⟨a0, _, rfl, _, _⟩ := con.coll e1
          cases rv
          obtain ⟨c, Pt, TB, hcode, hin, one⟩ := L.mkd
          obtain ⟨ws, hw, dw⟩ := capsL_get e2 ok1.loc
          have caught : ∀ y ∈ scope.names, y.2 = .free → ∃ c, X.env.cells.lookup y.1 = some c := fun y hy e => (L.free y hy e).elim (fun z => I1.ok.has _ (.inl z)) fun z => I1.ok.has _ (.inr z)
          show wpAny _ _ (evalAll [(do let v ← eval (.Lambda params body scope lp) X.env; standAt pos; pure v)]) _ _ s1
          refine wpAny_evalAll_cons (wpAny_bind ?_)
          refine lam_make3 I1 TB hcode hin one ok1.rep.tabs (lamP_def L.par _) caught fun f c' pm ctv H2 s2 M => ?_
          refine wpAny_bind (wpAny_standAt (wpAny_pure (wpAny_evalAll_nil ?_)))
          have far := Far.of (b := f) I1 M.at_
          obtain ⟨ok2, L2⟩ := ok1.ext M.ext M.tabs
          have fr2 : Fr W1 H1 (OwnA l1 σ) W1 H2 (OwnA l1 σ) := Fr.ext M.ext M.dom
          show wpAny _ _ (PySem.call (.builtin "sorted") [.ref a0] [(Str.ofString "key", .ref f)]) _ _ s2
          have con2 : Con X.K W1 H2 (.ref a0) (x.cont g1) := by
            cases con with
            | den h => exact .den (h.le L2)
            | ob e h => exact .ob e (h.le L2 fun o ho => M.ext _ o ho (h.nt ho))
          obtain ⟨a1, P, ea, hcl, hden⟩ := con2.coll e1
          cases ea
          refine call_sortedKey (P := P) hcm hu M.inv hcl M.ff M.fo far.loc (I1.nofs M.at_) (fun v z => by cases z) (lam_key L I1.ok hw) fun xs hP => ?_
          have dx := hden xs hP
          refine keys_go ok2 M.code dx (DenL.le L2 _ dw) e3 fun kvs W3 H3 ok3 fr3 L3 dk => ?_
          refine sort_fin (DenL.le L3 _ dx) dk (keysL_len e3) hk fun v H' n => ?_
          exact n.post ok3 (p1.shift (fr2.trans fr3))
        · rw [if_neg hk] at p1; exact False.elim p1
      · exact False.elim p1
    · exact False.elim p1
  refine wpAny_Call_Name_kw (ld_blt (u := .builtin "sorted") I bn.gl bn.mg (by decide +kernel) ?_ bn.nn bn.db)
  refine PyProof.Rows.callWith_kw ?_ (by rw [hs []]; rfl) (by rw [hs []]; rfl) (by rfl) (by rfl)
  rw [hs []]
  show wpAny _ _ (spliced ((false, eval e X.env) :: backTo pos (starEach [] X.env))) _ _ s
  cases ho with
  | ev he =>
    refine Calls.spliced_cons (thn ((he.bindV (R := fun v H1 => ∀ s1 u, Inv X pins σ H1 s1 → RelV v u → wpAny (model X.prog X.w) X.A (evalAll ((backToKw pos (keywordEach [⟨some "key", .Lambda params body scope lp, kp⟩] X.env)).map (·.2)))
        (fun kvs s2 => wpAny (model X.prog X.w) X.A (PySem.call (.builtin "sorted") [u] (((backToKw pos (keywordEach [⟨some "key", .Lambda params body scope lp, kp⟩] X.env)).filterMap (·.1)).zip kvs)) (EP X pins σ Q) X.xe s2) X.xe s1) ok p fun d f l1 g1 v W1 H1 p1 ok1 fr1 le1 den => ?_) pins s I) fun u s1 ⟨v, H1, I1, r1, q1⟩ => Calls.spliced_nil (q1 s1 u I1 r1))
    intro s1 u I1 r1
    obtain ⟨W2, ok2, fr2⟩ := ok1.shareL js
    exact core ok2 (Con.of_den ok2.rep (den.le (ok1.le fr2))) (p1.shift fr2) I1 r1
  | @pk i he =>
    obtain ⟨W2, ok2, fr2⟩ := ok.shareL js
    have p2 := p.shift fr2
    simp only [cSortK] at p2
    split at p2
    · rename_i x e1
      obtain ⟨v, ev⟩ := slot_some ok2.loc e1
      refine Calls.spliced_cons (thn (he.run pins s σ H (fun v' H' => v' = v ∧ H' = H) I ⟨v, ev, rfl, rfl⟩) fun u s1 ⟨v', H1, I1, r1, q1⟩ => Calls.spliced_nil ?_)
      obtain ⟨rfl, rfl⟩ := q1
      exact core ok2 (Con.slot ok2 ev e1) p2 I1 r1
    · exact False.elim p2
end
end Y
namespace Y
variable [TabC]
open PySem L2

/-! ### the compiler -/
inductive Gv where
  | fn (F : Fn) (np : Nat) (dfl : List D)
  | cv (d : D)
structure Cf where
  N : List Str
  sc : List (Str × NameKind)
  gl : List (Str × Gv)
  bn : List Str
  bx : List (Nat × Nat)
  tx : List (Nat × Nat)
  fz : List (Nat × Nat)
  wf : Nat
  lam : Bool
def isVis : Option NameKind → Bool
  | some .local => true
  | some .cell => true
  | some .free => true
  | _ => false
def isLoc : Option NameKind → Bool
  | some .local => true
  | some .cell => true
  | _ => false
def oddName (x : Str) : Bool := x == ("__debug__" : Str) || x == ("__classdict__" : Str)
/-- the slot of a name that is the def's own, or captured -/
def Cf.slot (cf : Cf) (x : Str) : Option Nat := if isVis (cf.sc.lookup x) && !oddName x then cf.N.findIdx? (fun y => y == x) else none
def Cf.lslot (cf : Cf) (x : Str) : Option Nat := if isLoc (cf.sc.lookup x) && !oddName x then cf.N.findIdx? (fun y => y == x) else none
def isGlob : Option NameKind → Bool
  | some .globalImplicit => true
  | _ => false
def Cf.glob (cf : Cf) (x : Str) : Bool := isGlob (cf.sc.lookup x) && !oddName x
/-- a built-in name, as such -/
def Cf.blt (cf : Cf) (x : Str) : Bool := cf.glob x && cf.bn.contains x
def constD : Const → Option D
  | .none => some .non
  | .bool b => some (.bl b)
  | .int i => some (.int i)
  | .str s => some (.str s)
  | _ => none
def binF : Operator → Option (D → D → PR)
  | .Add => some dAdd
  | .Sub => some dSub
  | .Mult => some dMul3
  | .FloorDiv => some dFdiv
  | .Mod => some dMod
  | .Pow => some dPow
  | _ => none
/-- + of tuples that are asked .index, at the places told -/
def binFz (cf : Cf) (p : Pos) (op : Operator) : Option (D → D → PR) := if cf.fz.contains (p.line, p.col) then (match op with
  | .Add => some dAddF
  | _ => none) else binF op
def tupFz (cf : Cf) (p : Pos) (ms : List Sm) : Sm := if cf.fz.contains (p.line, p.col) then cTupD ms else cTup ms
def cmpF : CmpOp → Option (D → D → PR)
  | .Eq => some dEq
  | .NotEq => some dNe
  | .Lt => some dLt
  | .LtE => some dLe
  | .Gt => some dGt
  | .GtE => some dGe
  | .In => some dIn
  | .NotIn => some dNin
  | .Is => some dIs
  | .IsNot => some dNis
def builtin1 (x : Str) : Option (D → PR) :=
  if x = "len" then some dLen else if x = "all" then some dAll else if x = "any" then some dAny else if x = "sum" then some dSum else
  if x = "int" then some dInt else if x = "str" then some dStr else if x = "tuple" then some dTuple else if x = "list" then some dList else if x = "sorted" then some dSorted else none
def builtin2 (x : Str) : Option (D → D → PR) :=
  if x = "max" then some dMax2A else if x = "min" then some dMin2A else none
def typeOfName (x : Str) : Option String :=
  if x = "str" then some "str" else if x = "int" then some "int" else if x = "bool" then some "bool" else if x = "tuple" then some "tuple" else
  if x = "list" then some "list" else if x = "dict" then some "dict" else none
def allB {α : Type} : List (Option α) → Option (List α)
  | [] => some []
  | x :: xs => match x, allB xs with
    | some a, some as => some (a :: as)
    | _, _ => none
def nameSlots (cf : Cf) : List Expr → Option (List Nat)
  | [] => some []
  | .Name x _ :: es => match cf.lslot x, nameSlots cf es with
    | some i, some is => some (i :: is)
    | _, _ => none
  | _ :: _ => none
def compTg (cf : Cf) : Expr → Option Tg
  | .Name x _ => (cf.lslot x).map .nm
  | .Tuple es _ _ => (nameSlots cf es).map .tp
  | _ => none
def ownOf (cf : Cf) : Expr → List (Str × Nat)
  | .Name x _ => match cf.N.findIdx? (fun y => y == x) with
    | some i => [(x, i)]
    | none => []
  | .Tuple es _ _ => es.filterMap fun
    | .Name x _ => (cf.N.findIdx? (fun y => y == x)).map fun i => (x, i)
    | _ => none
  | _ => []
def boxed (cf : Cf) (p : Pos) (m : Sm) : Sm := if cf.bx.contains (p.line, p.col) then cBox m else m
def slotOpd (cf : Cf) : Expr → Option Nat
  | .Name x _ => cf.slot x
  | _ => none
def isTuple : Expr → Bool
  | .Tuple .. => true
  | _ => false
/-- what a comprehension is, behind its parts -/
def blkSc (cf : Cf) (scope : Scope) : Cf := { cf with sc := scope.names, lam := false }
/-- the names that a block captures -/
def freesOf (scope : Scope) : List Str := (scope.names.filter fun y => decide (y.2 = .free)).map (·.1)
def lamCf (cf : Cf) (y : Str) (scope : Scope) : Cf := { cf with N := y :: freesOf scope, sc := scope.names, lam := false }
def isCF : Option NameKind → Bool
  | some .cell => true
  | some .free => true
  | _ => false
def lamGood (cf : Cf) (y : Str) (scope : Scope) : Bool := NdefX.nscB (y :: freesOf scope) [y] (freesOf scope) scope && scope.names.all fun z => !decide (z.2 = .free) || isCF (cf.sc.lookup z.1)
def capSlots (cf : Cf) : List Str → Option (List Nat)
  | [] => some []
  | x :: xs => match cf.slot x, capSlots cf xs with
    | some i, some is => some (i :: is)
    | _, _ => none
def blkGood (cf : Cf) (scope : Scope) (own : List (Str × Nat)) : Bool :=
  (match scope.kind with | .function => true | _ => false) && (scope.names.all fun y => decide (scope.names.lookup y.1 = some y.2)) && (own.all fun p => decide (cf.N[p.2]? = some p.1)) &&
    (scope.names.all fun y => match y.2 with
      | .free => (match cf.sc.lookup y.1 with | some .cell => true | some .free => true | _ => false)
      | .local => decide (y.1 ∈ own.map (·.1)) || decide (y.1 ∉ cf.N)
      | .cell => decide (y.1 ∈ own.map (·.1)) || decide (y.1 ∉ cf.N)
      | _ => true)

/-- sorted(set(b)), len(set(b)) -/
def setCall (cf : Cf) (x : Str) : Expr → Option (Expr × (D → PR))
  | .Call (.Name y _) [b] [] _ => if y = "set" ∧ cf.blt y = true ∧ notStar b = true then (if x = "sorted" then some (b, dSortSet) else if x = "len" then some (b, dLenSet) else none) else none
  | _ => none
def isRevStep : Expr → Bool
  | .UnaryOp .USub (.Constant (.int 1) _ _) _ => true
  | _ => false
mutual
def compE : Nat → Cf → Expr → Option Sm
  | 0, _, _ => none
  | n + 1, cf, e => match compX n cf e with
   | some m => some m
   | none => (match e with
    | .Constant c _ _ => (constD c).map cC
    | .Name x _ => match cf.slot x with
      | some i => some (cVar i)
      | none => if cf.glob x then (match cf.gl.lookup x with
        | some (.cv d) => some (cC d)
        | _ => none) else none
    | .BinOp a op b p => match binFz cf p op, compO n cf a, compO n cf b with
      | some f, some oa, some ob => some (c2 f oa ob)
      | _, _, _ => none
    | .UnaryOp .Not a _ => (compE n cf a).map cNot
    | .UnaryOp .USub a _ => (compO n cf a).map (cU dNeg)
    | .BoolOp op vs _ => compB n cf op vs
    | .IfExp c a b _ => match compT n cf c, compE n cf a, compE n cf b with
      | some mc, some ma, some mb => some (cIf mc ma mb)
      | _, _, _ => none
    | .Compare a [op] [b] _ => if behindInMarks op b then none else (match cmpF op, compO n cf a, compO n cf b with
      | some f, some oa, some ob => some (c2 f oa ob)
      | _, _, _ => none)
    | .Compare a [op, op'] [b, c] _ => if lastMarks [op, op'] [b, c] then none else (match cmpF op, cmpF op', compE n cf a, compE n cf b, compE n cf c with
      | some f, some f', some ma, some mb, some mc => some (cChain f f' ma mb mc)
      | _, _, _, _, _ => none)
    | .Tuple es _ p => (compAs n cf es).map (tupFz cf p)
    | .List es p => (compAs n cf es).map fun ms => boxed cf p (cLst ms)
    | .Dict [] [] p => if cf.tx.contains (p.line, p.col) then some (boxed cf p cDctT) else (compPs n cf [] []).map fun ms => boxed cf p (cDct ms)
    | .Dict ks vs p => if ks.length ≤ 15 then (compPs n cf ks vs).map fun ms => boxed cf p (cDct ms) else none
    | .Subscript a (.Slice lo hi none _) p => match compO n cf a, compP n cf lo, compP n cf hi with
      | some oa, some ml, some mh => some (boxed cf p (cSl oa ml mh))
      | _, _, _ => none
    | .Subscript a (.Slice none none (some (.UnaryOp .USub (.Constant (.int 1) _ _) _)) _) p => (compO n cf a).map fun oa => boxed cf p (cU dRev oa)
    | .Subscript a i _ => if notSlice i then (match compO n cf a, compO n cf i with
      | some oa, some oi => some (c2 dIx oa oi)
      | _, _ => none) else none
    | .Call f as [] p => compC n cf f as p
    | .ListComp elt [⟨tg, iter, ifs, 0⟩] scope p => (compL' n cf elt tg iter ifs scope).map fun m => boxed cf p m
    | _ => none)
/-- further forms, asked ahead -/
def compX : Nat → Cf → Expr → Option Sm
  | 0, _, _ => none
  | n + 1, cf, e => (match e with
    | .BoolOp .Or [a, b] p => if cf.fz.contains (p.line, p.col) then (match compE n cf a, compE n cf b with
      | some ma, some mb => some (cOrT ma mb)
      | _, _ => none) else none
    | .Call (.Name x _) [a] [⟨some k, .Constant (.bool true) _ _, _⟩] p => if k = "reverse" ∧ x = "sorted" ∧ cf.blt x = true ∧ notStar a = true then (compO n cf a).map fun o => boxed cf p (cU dSortDown o) else none
    | .Call (.Name x _) [a] [⟨some k, .Lambda params body scope _, _⟩] p => if k = "key" ∧ x = "sorted" ∧ cf.blt x = true ∧ notStar a = true ∧ cf.lam = true then (match lamP params with
      | some y => if lamGood cf y scope = true then (match capSlots cf (freesOf scope), compO n cf a, compE n (lamCf cf y scope) body with
        | some js, some oa, some mb => some (boxed cf p (cSortK js (lamF mb) oa))
        | _, _, _ => none) else none
      | none => none) else none
    | .Subscript a (.Slice none none (some b) _) _ => if isRevStep b = true then none else (match compO n cf a, compO n cf b with
      | some oa, some ob => some (c2 dStep oa ob)
      | _, _ => none)
    | .Call (.Attribute o m ap) [] [] p => if m = "upper" ∧ plainBase o = true ∧ (ap.endLine == p.line) = true then (compE n cf o).map (cStr0 dUpper) else none
    | .Call (.Attribute o m ap) [a, b] [] p => if m = "get" ∧ plainBase o = true ∧ (ap.endLine == p.line) = true ∧ notStar a = true ∧ notStar b = true then (match compO n cf o, compE n cf a, compE n cf b with
      | some oo, some ma, some mb => some (cGet2 oo ma mb)
      | _, _, _ => none)
      else if m = "setdefault" ∧ plainBase o = true ∧ (ap.endLine == p.line) = true ∧ notStar a = true ∧ notStar b = true then (match compO n cf o, compE n cf a, compE n cf b with
      | some oo, some ma, some mb => some (cMu isDcu muSetd oo [ma, mb])
      | _, _, _ => none) else none
    | .Dict [some k] [v] p => if cf.tx.contains (p.line, p.col) then (match compE n cf k, compE n cf v with
      | some mk, some mv => some (boxed cf p (cDct1T mk mv))
      | _, _ => none) else none
    | _ => none)
def compO : Nat → Cf → Expr → Option Opd
  | 0, _, _ => none
  | n + 1, cf, e => match slotOpd cf e with
    | some i => some (.pk i)
    | none => (compE n cf e).map .ev
def compT : Nat → Cf → Expr → Option Sm
  | 0, _, _ => none
  | n + 1, cf, e => (match e with
    | .UnaryOp .Not a _ => (compT n cf a).map cNot
    | .BoolOp op vs _ => compBT n cf op vs
    | .Compare a [op] [b] _ => if behindInMarks op b then none else (match cmpF op, compO n cf a, compO n cf b with
      | some f, some oa, some ob => some (c2 f oa ob)
      | _, _, _ => none)
    | .Compare a [op, op'] [b, c] _ => if lastMarks [op, op'] [b, c] then none else (match cmpF op, cmpF op', compE n cf a, compE n cf b, compE n cf c with
      | some f, some f', some ma, some mb, some mc => some (cChain f f' ma mb mc)
      | _, _, _, _, _ => none)
    | e => if plainTest e then (compO n cf e).map (cU dTruth) else none)
def compB : Nat → Cf → BoolOp → List Expr → Option Sm
  | 0, _, _, _ => none
  | n + 1, cf, op, vs => match vs with
    | [a] => compE n cf a
    | a :: b :: r => match compE n cf a, compB n cf op (b :: r) with
      | some ma, some mb => some (match op with | .And => cAnd ma mb | .Or => cOr ma mb)
      | _, _ => none
    | [] => none
def compBT : Nat → Cf → BoolOp → List Expr → Option Sm
  | 0, _, _, _ => none
  | n + 1, cf, op, vs => match vs with
    | [a] => compT n cf a
    | a :: b :: r => match compT n cf a, compBT n cf op (b :: r) with
      | some ma, some mb => some (match op with | .And => cAnd ma mb | .Or => cOr ma mb)
      | _, _ => none
    | [] => none
def compAs : Nat → Cf → List Expr → Option (List Sm)
  | 0, _, _ => none
  | n + 1, cf, es => match es with
    | [] => some []
    | e :: r => if notStar e then (match compE n cf e, compAs n cf r with
      | some m, some ms => some (m :: ms)
      | _, _ => none) else none
def compPs : Nat → Cf → List (Option Expr) → List Expr → Option (List (Sm × Sm))
  | 0, _, _, _ => none
  | n + 1, cf, ks, vs => match ks, vs with
    | [], [] => some []
    | some k :: ks, v :: vs => match compE n cf k, compE n cf v, compPs n cf ks vs with
      | some mk, some mv, some ms => some ((mk, mv) :: ms)
      | _, _, _ => none
    | _, _ => none
def compP : Nat → Cf → Option Expr → Option (Option Sm)
  | 0, _, _ => none
  | n + 1, cf, e => match e with
    | none => some none
    | some e => (compE n cf e).map some
/-- a call -/
def compC : Nat → Cf → Expr → List Expr → Pos → Option Sm
  | 0, _, _, _, _ => none
  | n + 1, cf, f, as, p => (match f with
    | .Name x _ => if cf.glob x then (match cf.gl.lookup x with
      | some (.fn F np dfl) => if as.length ≤ np ∧ np ≤ as.length + dfl.length then (compAs n cf as).map (cCall F (dfl.drop (as.length + dfl.length - np))) else none
      | some _ => none
      | none => if cf.bn.contains x then (match as with
        | [a] => match setCall cf x a with
          | some (b, f) => (compO n cf b).map fun o => boxed cf p (cU f o)
          | none => if x = "tuple" ∧ cf.fz.contains (p.line, p.col) = true then (if notStar a then (compO n cf a).map cTupFz else none)
          else if notStar a then (match builtin1 x, compO n cf a with
          | some g, some o => some (boxed cf p (cU g o))
          | _, _ => none) else none
        | [a, b] => if x = "isinstance" then (match b with
            | .Name y _ => if cf.blt y && notStar a then (match typeOfName y, compO n cf a with
              | some T, some o => some (cU (isInst T) o)
              | _, _ => none) else none
            | _ => none)
          else if notStar a && notStar b then (match builtin2 x, compO n cf a, compO n cf b with
            | some g, some oa, some ob => some (c2 g oa ob)
            | _, _, _ => none) else none
        | _ => none) else none) else none
    | .Attribute o m ap => if plainBase o && (ap.endLine == p.line) then (
      if m = "append" then (match as with
        | [a] => if notStar a then (match compO n cf o, compE n cf a with
          | some oo, some ma => some (cMu isLst muAppend oo [ma])
          | _, _ => none) else none
        | _ => none)
      else if m = "pop" then (match as with
        | [] => (compO n cf o).map fun oo => cMu isLst muPop oo []
        | [a] => if notStar a then (match compO n cf o, compE n cf a with
          | some oo, some ma => some (cMu isLst muPopAt oo [ma])
          | _, _ => none) else none
        | _ => none)
      else if m = "extend" then (match as with
        | [a] => if notStar a then (match compO n cf o, compE n cf a with
          | some oo, some ma => some (cMu isLst muExtend oo [ma])
          | _, _ => none) else none
        | _ => none)
      else if m = "insert" then (match as with
        | [a, b] => if notStar a && notStar b then (match compO n cf o, compE n cf a, compE n cf b with
          | some oo, some ma, some mb => some (cMu isLst muInsert oo [ma, mb])
          | _, _, _ => none) else none
        | _ => none)
      else if m = "clear" then (match as with
        | [] => (compO n cf o).map fun oo => cMu isLst muClear oo []
        | _ => none)
      else if m = "index" then (match as with
        | [a] => if notStar a then (match compO n cf o, compE n cf a with
          | some oo, some ma => some (cIndex oo ma)
          | _, _ => none) else none
        | _ => none)
      else if m = "reverse" then (match as with
        | [] => (compO n cf o).map fun oo => cMu isLst muRev oo []
        | _ => none)
      else if m = "join" then (match as with
        | [a] => if notStar a then (match compE n cf o, compO n cf a with
          | some mo, some oa => some (cStr1 dJoin mo oa)
          | _, _ => none) else none
        | _ => none)
      else none) else none
    | _ => none)
/-- what a for or a comprehension walks -/
def compI : Nat → Cf → Expr → Expr → Option Im
  | 0, _, _, _ => none
  | n + 1, cf, tg, e => (match e with
    | .Call (.Name x _) as [] _ => if cf.blt x then (
        if x = "range" then (match as with
          | [a] => if notStar a then (compE n cf a).map iRange1 else none
          | [a, b] => if notStar a && notStar b then (match compE n cf a, compE n cf b with
            | some ma, some mb => some (iRange2 ma mb)
            | _, _ => none) else none
          | [a, b, c] => if notStar a && notStar b && notStar c then (match compE n cf a, compE n cf b, compE n cf c with
            | some ma, some mb, some mc => some (iRange3 ma mb mc)
            | _, _, _ => none) else none
          | _ => none)
        else if x = "enumerate" then (match as with
          | [a] => if notStar a && isTuple tg then (compE n cf a).map iEnum1 else none
          | _ => none)
        else if x = "zip" then (match as with
          | [a, b] => if notStar a && notStar b && isTuple tg then (match compE n cf a, compE n cf b with
            | some ma, some mb => some (iZip2 ma mb)
            | _, _ => none) else none
          | _ => none)
        else if x = "reversed" then (match as with
          | [a] => if notStar a then (compE n cf a).map iRev1 else none
          | _ => none)
        else (compE n cf e).map iPlain)
      else (compE n cf e).map iPlain
    | _ => (compE n cf e).map iPlain)
def compL' : Nat → Cf → Expr → Expr → Expr → List Expr → Scope → Option Sm
  | 0, _, _, _, _, _, _ => none
  | n + 1, cf, elt, tg, iter, ifs, scope =>
    if notSet iter && blkGood cf scope (ownOf cf tg) then (match compI n cf tg iter, compTg (blkSc cf scope) tg, compE n (blkSc cf scope) elt with
      | some mi, some t, some me => if t.slots.all fun i => decide (i ∈ (ownOf cf tg).map (·.2)) then (match ifs with
        | [] => some (cLc mi t ((ownOf cf tg).map (·.2)) none me)
        | [c] => (compT n (blkSc cf scope) c).map fun mc => cLc mi t ((ownOf cf tg).map (·.2)) (some mc) me
        | _ => none) else none
      | _, _, _ => none) else none
end
end Y
namespace Y
variable [TabC]
open PySem L2

structure Ctx (cf : Cf) (X : Cx) : Prop where
  calm : X.calm = true
  kind : X.env.scope.kind = .function
  N : X.N = cf.N
  nd : cf.N.Nodup
  rel : ∀ x k, cf.sc.lookup x = some k → X.env.scope.names.lookup x = some k ∨ (k = .free ∧ X.env.scope.names.lookup x = some .cell)
  fnl : ∀ x, cf.sc.lookup x = some .cell → X.fn x = true
  hu : X.A.units + 65 < cLine
  po : PassesOwn (model X.prog X.w) X.A X.env X.xe
  bi : ∀ x, x ∈ cf.bn → X.mg x = none ∧ x ≠ "__name__"
  fns : ∀ x F np dfl, cf.gl.lookup x = some (.fn F np dfl) → ∀ k, FnK X x F (dfl.drop k)
  cvs : ∀ x d, cf.gl.lookup x = some (.cv d) → ∃ v u, X.mg x = some u ∧ RelV v u ∧ ∀ W H, Den X.K W H v d
  gd : X.A.guards = some []
  lamc : cf.lam = true → ∃ k, Room (k + 3) X.A ∧ (∀ x F np dfl, cf.gl.lookup x = some (.fn F np dfl) → ∀ j, FnK0 X k x F (dfl.drop j)) ∧
    ∃ c P, LamX.TabB X.base X.mg c P ∧ X.env.code = .ref c ∧ (P, X.env.qual ++ "<lambda>") ∈ TabC.T ∧ ∀ p ∈ TabC.T, p.1 = P → p.2 = X.env.qual ++ "<lambda>"

theorem findIdx_some {x : Str} : ∀ {N : List Str} {i : Nat}, N.findIdx? (fun y => y == x) = some i → N[i]? = some x := fun {N i} h => by
  rw [List.findIdx?_eq_some_iff_getElem] at h
  obtain ⟨hi, h1, _⟩ := h
  rw [List.getElem?_eq_getElem hi, show N[i] = x by simpa using h1]
theorem odd_not {x : Str} (h : oddName x = false) : (x == ("__debug__" : Str)) = false ∧ (x == ("__classdict__" : Str)) = false := by
  unfold oddName at h
  simpa [Bool.or_eq_false_iff] using h
section
variable {cf : Cf} {X : Cx} (C : Ctx cf X)
include C
theorem Ctx.slot {x : Str} {i : Nat} (h : cf.slot x = some i) : X.N[i]? = some x ∧ Vis X.env.scope x ∧ (x == ("__debug__" : Str)) = false ∧ (x == ("__classdict__" : Str)) = false := by
  unfold Cf.slot at h
  split at h
  · rename_i hc
    simp only [Bool.and_eq_true, Bool.not_eq_true'] at hc
    refine ⟨by rw [C.N]; exact findIdx_some h, ?_, odd_not hc.2⟩
    cases hk : cf.sc.lookup x with
    | none => rw [hk] at hc; simp [isVis] at hc
    | some k =>
      rw [hk] at hc
      rcases C.rel x k hk with r | ⟨rfl, r⟩
      · cases k with
        | «local» => exact .inl r
        | cell => exact .inr (.inl r)
        | free => exact .inr (.inr r)
        | _ => simp [isVis] at hc
      · exact .inr (.inl r)
  · cases h
theorem Ctx.lslot {x : Str} {i : Nat} (h : cf.lslot x = some i) : X.N[i]? = some x ∧ Loc X.env.scope x ∧ (X.fn x = true ∨ X.env.scope.names.lookup x = some .local) := by
  unfold Cf.lslot at h
  split at h
  · rename_i hc
    simp only [Bool.and_eq_true, Bool.not_eq_true'] at hc
    refine ⟨by rw [C.N]; exact findIdx_some h, ?_⟩
    cases hk : cf.sc.lookup x with
    | none => rw [hk] at hc; simp [isLoc] at hc
    | some k =>
      rw [hk] at hc
      rcases C.rel x k hk with r | ⟨rfl, r⟩
      · cases k with
        | «local» => exact ⟨.inl r, .inr r⟩
        | cell => exact ⟨.inr r, .inl (C.fnl x hk)⟩
        | _ => simp [isLoc] at hc
      · simp [isLoc] at hc
  · cases h
theorem Ctx.glob {x : Str} (h : cf.glob x = true) : Gl X x ∧ (x == ("__debug__" : Str)) = false := by
  unfold Cf.glob at h
  simp only [Bool.and_eq_true, Bool.not_eq_true'] at h
  refine ⟨?_, (odd_not h.2).1⟩
  cases hk : cf.sc.lookup x with
  | none => rw [hk] at h; simp [isGlob] at h
  | some k =>
    rw [hk] at h
    rcases C.rel x k hk with r | ⟨rfl, r⟩
    · cases k with
      | globalImplicit => exact r
      | _ => simp [isGlob] at h
    · simp [isGlob] at h
theorem Ctx.bn {x : Str} (h : cf.glob x = true) (h' : cf.bn.contains x = true) : Bn X x := by
  obtain ⟨g, d⟩ := C.glob h
  obtain ⟨m, n⟩ := C.bi x (by simpa using h')
  exact ⟨g, m, n, d⟩
theorem Ctx.blt {x : Str} (h : cf.blt x = true) : Bn X x := by
  unfold Cf.blt at h
  simp only [Bool.and_eq_true] at h
  exact C.bn h.1 h.2
theorem Ctx.slotOpd {e : Expr} {i : Nat} (h : slotOpd cf e = some i) : PE X e (tVar i) := by
  cases e with
  | Name x p =>
    obtain ⟨h1, h2, h3, h4⟩ := C.slot (show cf.slot x = some i from h)
    exact pe_var h1 h2 h3 h4
  | _ => cases h
theorem Ctx.nms : ∀ {es : List Expr} {is : List Nat}, nameSlots cf es = some is → Nms X es is
  | [], _, h => by cases h; exact .nil
  | e :: es, is, h => by
    cases e with
    | Name x p =>
      simp only [nameSlots] at h
      split at h
      · rename_i i is' e1 e2
        cases h
        obtain ⟨h1, h2, h3⟩ := C.lslot e1
        exact .cons (pg_name (by rw [C.N]; exact C.nd) h1 h2 h3) (Ctx.nms e2)
      · cases h
    | _ => cases h
theorem Ctx.tg {e : Expr} {t : Tg} (h : compTg cf e = some t) : SG X e t := by
  cases e with
  | Name x p =>
    simp only [compTg, Option.map_eq_some_iff] at h
    obtain ⟨i, e1, rfl⟩ := h
    obtain ⟨h1, h2, h3⟩ := C.lslot e1
    exact sg_name (by rw [C.N]; exact C.nd) h1 h2 h3
  | Tuple es k p =>
    simp only [compTg, Option.map_eq_some_iff] at h
    obtain ⟨is, e1, rfl⟩ := h
    exact sg_tuple C.calm (C.nms e1)
  | _ => cases h
end
theorem lookup_relS_free {sc : Scope} : ∀ {names : List (Str × NameKind)} {x : Str}, names.lookup x = some .free →
    (names.map fun (n, k) => if (k == NameKind.free && sc.kind == .function && sc.names.lookup n == some .cell) then (n, NameKind.cell) else (n, k)).lookup x = some .free ∨
    (names.map fun (n, k) => if (k == NameKind.free && sc.kind == .function && sc.names.lookup n == some .cell) then (n, NameKind.cell) else (n, k)).lookup x = some .cell
  | [], _, h => by simp at h
  | (n, k₀) :: r, x, h => by
    have ih := @lookup_relS_free sc r x
    rw [List.map_cons]
    by_cases hc : (k₀ == NameKind.free && sc.kind == .function && sc.names.lookup n == some .cell) = true
    · simp only [hc, if_true]
      cases hx : x == n with
      | true => simp only [List.lookup_cons, hx]; exact .inr trivial
      | false =>
        simp only [List.lookup_cons, hx] at h ⊢
        exact ih h
    · simp only [hc]
      cases hx : x == n with
      | true =>
        simp only [List.lookup_cons, hx] at h
        cases h
        simp only [Bool.false_eq_true, if_false, List.lookup_cons, hx]; exact .inl trivial
      | false =>
        simp only [List.lookup_cons, hx] at h
        simp only [Bool.false_eq_true, if_false, List.lookup_cons, hx]
        exact ih h
theorem FnK.blk {X : Cx} {x : Str} {F : Fn} {dfl : List D} (h : FnK X x F dfl) {scope : Scope} {s : Shared} {H : Hp} {C : Addr} {cl : List (Str × Addr)} {fp : List Addr} : FnK (Blk X scope s H C cl fp) x F dfl := ⟨h.ex⟩
theorem Ctx.blk {cf : Cf} {X : Cx} (c : Ctx cf X) {scope : Scope} (hk : scope.kind = .function) (s : Shared) (H : Hp) (C : Addr) (cl : List (Str × Addr)) (fp : List Addr) : Ctx (blkSc cf scope) (Blk X scope s H C cl fp) where
  calm := c.calm
  kind := hk
  N := c.N
  nd := c.nd
  rel := fun x k h => by
    have h : scope.names.lookup x = some k := h
    show (relS scope X.env.scope).names.lookup x = some k ∨ (k = .free ∧ (relS scope X.env.scope).names.lookup x = some .cell)
    by_cases hf : k = .free
    · subst hf
      rcases lookup_relS_free (sc := X.env.scope) h with q | q
      · exact .inl q
      · exact .inr ⟨rfl, q⟩
    · exact .inl (lookup_relS_keep hf h)
  fnl := fun x h => by
    have h : scope.names.lookup x = some .cell := h
    show (scope.names.lookup x == some .cell) = true
    rw [h]; rfl
  hu := c.hu
  po := PassesOwn.never
  bi := c.bi
  fns := fun x F np dfl h k => (c.fns x F np dfl h k).blk
  cvs := c.cvs
  gd := c.gd
  lamc := fun h => by cases h
theorem Ctx.blkOk {cf : Cf} {X : Cx} (c : Ctx cf X) {scope : Scope} {own : List (Str × Nat)} (h : blkGood cf scope own = true) : BlkOk X.N X.env.scope scope own ∧ scope.kind = .function := by
  unfold blkGood at h
  simp only [Bool.and_eq_true, List.all_eq_true, decide_eq_true_eq] at h
  obtain ⟨⟨⟨h1, h2⟩, h3⟩, h4⟩ := h
  have hk : scope.kind = .function := by
    split at h1
    · assumption
    · cases h1
  refine ⟨⟨hk, h2, fun p hp => by rw [c.N]; exact h3 p hp, fun y hy e => ?_, fun y hy e => ?_⟩, hk⟩
  · have q := h4 y hy
    simp only [e] at q
    split at q
    · rename_i e2
      rcases c.rel _ _ e2 with r | ⟨z, _⟩
      · exact .inl r
      · cases z
    · rename_i e2
      rcases c.rel _ _ e2 with r | ⟨_, r⟩
      · exact .inr r
      · exact .inl r
    · cases q
  · have q := h4 y hy
    rcases e with e | e <;> (simp only [e, Bool.or_eq_true, decide_eq_true_eq] at q; rw [c.N]; exact q)

theorem lookup_of_mem {names : List (Str × NameKind)} {x : Str} {k : NameKind} (h : names.lookup x = some k) : (x, k) ∈ names := PySem.mem_of_lookup h
theorem Ctx.caps {cf : Cf} {X : Cx} (C : Ctx cf X) : ∀ {fr : List Str} {js : List Nat}, capSlots cf fr = some js → js.map (fun j => X.N[j]?) = fr.map some
  | [], _, h => by cases h; rfl
  | x :: fr, js, h => by
    unfold capSlots at h
    split at h
    · rename_i i is e1 e2
      cases h
      rw [List.map_cons, List.map_cons, (C.slot e1).1, C.caps e2]
    · cases h
theorem mem_frees {scope : Scope} {y : Str} : y ∈ freesOf scope ↔ (y, NameKind.free) ∈ scope.names := by
  unfold freesOf
  simp only [List.mem_map, List.mem_filter, decide_eq_true_eq]
  constructor
  · rintro ⟨⟨a, b⟩, ⟨h1, h2⟩, h3⟩
    simp only at h2 h3
    subst h2 h3
    exact h1
  · intro h
    exact ⟨(y, .free), ⟨h, rfl⟩, rfl⟩
open NdefX in
theorem Ctx.lamK {cf : Cf} {X : Cx} (C : Ctx cf X) {y : Str} {scope : Scope} {params : Arguments} {body : Expr} {js : List Nat} {m : Sm} (hl : cf.lam = true) (hp : lamP params = some y) (hg : lamGood cf y scope = true) (hj : capSlots cf (freesOf scope) = some js)
    (hm : ∀ X', Ctx (lamCf cf y scope) X' → SE X' body m) : LamK X y (freesOf scope) js params body scope m := by
  unfold lamGood at hg
  rw [Bool.and_eq_true] at hg
  obtain ⟨hs, hf⟩ := hg
  have S := nscope_by hs
  obtain ⟨k, hr, hk, hT⟩ := C.lamc hl
  refine ⟨hp, S, fun z hz e => ?_, fun z hz => mem_frees.mp hz, C.caps hj, hT, C.gd, k, hr, fun F f A outer s H eF hr' gd' => hm _ ?_⟩
  · have q := List.all_eq_true.mp hf z hz
    rw [decide_eq_true e, Bool.not_true, Bool.false_or] at q
    cases hk : cf.sc.lookup z.1 with
    | none => rw [hk] at q; cases q
    | some kd =>
      rw [hk] at q
      cases kd with
      | cell =>
        rcases C.rel _ _ hk with r | ⟨w, _⟩
        · exact .inl r
        · cases w
      | free =>
        rcases C.rel _ _ hk with r | ⟨_, r⟩
        · exact .inr r
        · exact .inl r
      | _ => cases q
  · subst eF
    exact {
      calm := rfl
      kind := S.kind
      N := rfl
      nd := S.nd
      rel := fun x k h => .inl h
      fnl := fun x h => absurd rfl (S.nocell _ (PySem.mem_of_lookup h))
      hu := by have := hr'.un; show (A.deeper (envF F f s.heap.objs.size)).units + 65 < cLine; omega
      po := PassesOwn.never
      bi := C.bi
      fns := fun x F' np dfl h j => by
        obtain ⟨f', fd, ps, dvs, ds, q⟩ := (hk x F' np dfl h j).ex
        exact FnK0.at ⟨f', fd, ps, dvs, ds, q⟩ hr' gd'
      cvs := C.cvs
      gd := gd'
      lamc := fun h => by cases h }
/-! ### the operators' rules, by table -/
section
variable {X : Cx}
theorem bin_rule {op : Operator} {f : D → D → PR} (h : binF op = some f) : ∃ r, OpR X (binaryOp op) r ∧ P2 X.K r f := by
  cases op <;> simp only [binF, Option.some.injEq, reduceCtorEq] at h <;> subst h
  · exact ⟨_, op_addA, p2_add⟩
  · exact ⟨_, op_sub, p2_sub⟩
  · exact ⟨_, op_mulA, p2_mul⟩
  · exact ⟨_, op_mod, p2_mod⟩
  · exact ⟨_, op_pow, p2_pow⟩
  · exact ⟨_, op_fdiv, p2_fdiv⟩
theorem isBl_bl (o : Option Bool) : isBlPR (PR.bl o) := by cases o <;> trivial
theorem cmp_rule {op : CmpOp} {f : D → D → PR} (hu : X.A.units + 65 < cLine) (h : cmpF op = some f) : ∃ r, OpR X (compareOp op) r ∧ P2 X.K r f ∧ ∀ x y, isBlPR (f x y) := by
  have hu' : X.A.units + 64 < cLine := by omega
  cases op <;> simp only [cmpF, Option.some.injEq, reduceCtorEq] at h <;> subst h
  · exact ⟨_, op_eqA hu', p2_eq, fun x y => isBl_bl _⟩
  · exact ⟨_, op_neA hu', p2_ne, fun x y => isBl_bl _⟩
  · exact ⟨_, op_ltA hu', p2_lt, fun x y => isBl_bl _⟩
  · exact ⟨_, op_leA, p2_le, fun x y => by unfold dLe; split <;> trivial⟩
  · exact ⟨_, op_gtA, p2_gt, fun x y => by unfold dGt; split <;> trivial⟩
  · exact ⟨_, op_geA, p2_ge, fun x y => by unfold dGe; split <;> trivial⟩
  · exact ⟨_, op_isA, p2_is, fun x y => isBl_bl _⟩
  · exact ⟨_, op_nisA, p2_nis, fun x y => isBl_bl _⟩
  · exact ⟨_, op_inA hu, p2_in, fun x y => isBl_bl _⟩
  · exact ⟨_, op_ninA hu, p2_nin, fun x y => isBl_bl _⟩
end
end Y
namespace Y
variable [TabC]
open PySem L2

/-- a list comprehension, in all the ways it stands -/
def CompOk (X : Cx) (elt tg iter : Expr) (ifs : List Expr) (scope : Scope) (m : Sm) : Prop := ∀ pos : Pos,
  ∃ te, PE X (.ListComp elt [⟨tg, iter, ifs, 0⟩] scope pos) te ∧ (∀ {i : Nat} {y : Str} {py spos : Pos}, X.N[i]? = some y → X.env.scope.names.lookup y = some .local →
      swapsWith (.ListComp elt [⟨tg, iter, ifs, 0⟩] scope pos) (some (.Name y py)) spos.line X.env = pure true → PS X (.Assign [.Name y py] (.ListComp elt [⟨tg, iter, ifs, 0⟩] scope pos) spos) (tAsg te (gName i))) ∧
      ∀ (σ : L2.St) (H : Hp) (W : Wd) (l : Lc) (g : Gs) (Q : VK), Ok X.K W l g σ H → EPost X.K W H σ l (m l g) Q → te σ H Q
theorem box_core {X : Cx} {t : TE} {m : Sm} (h : ∀ (σ : L2.St) (H : Hp) (W : Wd) (l : Lc) (g : Gs) (Q : VK), Ok X.K W l g σ H → EPost X.K W H σ l (m l g) Q → t σ H Q) :
    ∀ (σ : L2.St) (H : Hp) (W : Wd) (l : Lc) (g : Gs) (Q : VK), Ok X.K W l g σ H → EPost X.K W H σ l (cBox m l g) Q → t σ H Q := by
  intro σ H W l g Q ok p
  obtain ⟨d, f, l1, g1, e1, p1⟩ := p.bind
  refine h σ H W l g Q ok ?_
  rw [e1]
  intro v W' H' ok' f' r'
  cases f with
  | false => exact False.elim p1
  | true =>
    obtain ⟨a, rfl, ob, n1, n2, n3, z⟩ := r'
    refine p1 (.ref a) ⟨W'.mu ++ [a], W'.F⟩ H' (ok'.box ob n1 n2 n3) ⟨?_, f'.sub, f'.new, f'.keep, f'.dom, f'.own, f'.keepF⟩ (.ref ?_)
    · obtain ⟨m, e, hm⟩ := f'.mu
      refine ⟨m ++ [a], by show W'.mu ++ [a] = _; rw [e, List.append_assoc], fun x hx => ?_⟩
      rcases List.mem_append.mp hx with hx | hx
      · exact hm x hx
      · rw [List.mem_singleton.mp hx]; exact z
    · show (W'.mu ++ [a])[g1.length]? = some a
      rw [← ok'.rep.len]; simp
theorem se_boxed {X : Cx} {cf : Cf} {p : Pos} {e : Expr} {m : Sm} (h : SE X e m) : SE X e (boxed cf p m) := by
  unfold boxed
  split
  · exact se_box h
  · exact h
theorem comp_boxed {X : Cx} {cf : Cf} {p : Pos} {elt tg iter : Expr} {ifs : List Expr} {scope : Scope} {m : Sm} (h : CompOk X elt tg iter ifs scope m) : CompOk X elt tg iter ifs scope (boxed cf p m) := by
  unfold boxed
  split
  · intro pos
    obtain ⟨te, h1, h2, h3⟩ := h pos
    exact ⟨te, h1, h2, box_core h3⟩
  · exact h
theorem CompOk.se {X : Cx} {elt tg iter : Expr} {ifs : List Expr} {scope : Scope} {m : Sm} {pos : Pos} (h : CompOk X elt tg iter ifs scope m) : SE X (.ListComp elt [⟨tg, iter, ifs, 0⟩] scope pos) m := fun σ H W l g Q ok p => by
  obtain ⟨te, h1, _, h3⟩ := h pos
  exact tW.of h1 (h3 σ H W l g Q ok p)

structure Snd (n : Nat) : Prop where
  X : ∀ cf X, Ctx cf X → ∀ e m, compX n cf e = some m → SE X e m
  E : ∀ cf X, Ctx cf X → ∀ e m, compE n cf e = some m → SE X e m
  O : ∀ cf X, Ctx cf X → ∀ e o, compO n cf e = some o → SO X e o
  T : ∀ cf X, Ctx cf X → ∀ e m, compT n cf e = some m → ST X e m
  B : ∀ cf X, Ctx cf X → ∀ op vs m pos, compB n cf op vs = some m → SE X (.BoolOp op vs pos) m
  BT : ∀ cf X, Ctx cf X → ∀ op vs m pos, compBT n cf op vs = some m → STw X (.BoolOp op vs pos) m
  As : ∀ cf X, Ctx cf X → ∀ es ms, compAs n cf es = some ms → SA X es ms
  Ps : ∀ cf X, Ctx cf X → ∀ ks vs ms, compPs n cf ks vs = some ms → SPs X ks vs ms
  P : ∀ cf X, Ctx cf X → ∀ e m, compP n cf e = some m → SP X e m
  C : ∀ cf X, Ctx cf X → ∀ f as p m, compC n cf f as p = some m → SE X (.Call f as [] p) m
  I : ∀ cf X, Ctx cf X → ∀ tg e m, compI n cf tg e = some m → SI X tg e m
  L : ∀ cf X, Ctx cf X → ∀ elt tg iter ifs scope m, compL' n cf elt tg iter ifs scope = some m → CompOk X elt tg iter ifs scope m

theorem builtin1_rule {X : Cx} {x : Str} {f : D → PR} (hc : X.calm = true) (hu : X.A.units + 65 < cLine) (h : builtin1 x = some f) (bn : Bn X x) {a : Expr} {o : Opd} {p0 pos : Pos} (hs : Star1 X a) (ha : SO X a o) : SE X (.Call (.Name x p0) [a] [] pos) (cU f o) := by
  unfold builtin1 at h
  split at h
  · subst_vars; cases h; exact se_b1 call_lenA p1_len bn PySem.boot_len hs ha
  split at h
  · subst_vars; cases h; exact se_b1 (cr_all hc) p1_all bn (by decide +kernel) hs ha
  split at h
  · subst_vars; cases h; exact se_b1 (cr_any hc) p1_any bn (by decide +kernel) hs ha
  split at h
  · subst_vars; cases h; exact se_b1 (cr_sum hc) p1_sum bn (by decide +kernel) hs ha
  split at h
  · subst_vars; cases h; exact se_t1 call_intA p1_int bn (by decide +kernel) hs ha
  split at h
  · subst_vars; cases h; exact se_t1 (call_str_int.or SkE.call_str_str) p1_str bn (by decide +kernel) hs ha
  split at h
  · subst_vars; cases h; exact se_t1 call_tuple_of p1_tuple bn (by decide +kernel) hs ha
  split at h
  · subst_vars; cases h; exact se_t1 (call_listA hc) p1_list bn (by decide +kernel) hs ha
  split at h
  · subst_vars; cases h; exact se_b1 (call_sortedA hc hu) p1_sorted bn (by decide +kernel) hs ha
  · cases h
theorem builtin2_rule {X : Cx} {x : Str} {f : D → D → PR} (hc : X.calm = true) (hu : X.A.units + 65 < cLine) (h : builtin2 x = some f) (bn : Bn X x) {a b : Expr} {o o' : Opd} {p0 pos : Pos} (hs : Star1 X a) (hs' : Star1 X b) (ha : SO X a o) (hb : SO X b o') :
    SE X (.Call (.Name x p0) [a, b] [] pos) (c2 f o o') := by
  unfold builtin2 at h
  split at h
  · subst_vars; cases h; exact se_b2 ((call_max2 hc).or (call_max2S hc hu)) p2_maxA bn (by decide +kernel) hs hs' ha hb
  split at h
  · subst_vars; cases h; exact se_b2 ((call_min2 hc).or (call_min2S hc hu)) p2_minA bn (by decide +kernel) hs hs' ha hb
  · cases h
theorem type_rule {x : Str} {T : String} (h : typeOfName x = some T) : bootBuiltins x = some (.type T) := by
  unfold typeOfName at h
  split at h
  · subst_vars; cases h; decide +kernel
  split at h
  · subst_vars; cases h; decide +kernel
  split at h
  · subst_vars; cases h; decide +kernel
  split at h
  · subst_vars; cases h; decide +kernel
  split at h
  · subst_vars; cases h; decide +kernel
  split at h
  · subst_vars; cases h; decide +kernel
  · cases h
theorem const_rule {X : Cx} {c : Const} {d : D} {k : Nat} {p : Pos} (h : constD c = some d) : SE X (.Constant c k p) (cC d) := by
  cases c <;> simp only [constD, Option.some.injEq, reduceCtorEq] at h <;> subst h
  · exact se_const pe_non fun _ _ => .non
  · exact se_const pe_bl fun _ _ => .bl _
  · exact se_const pe_int fun _ _ => .int _
  · exact se_const pe_str fun _ _ => .str _
theorem few1 {X : Cx} {a : Expr} {es : List Expr} {ms : List Sm} {p : Pos} (h : SA X (a :: es) ms) (hl : (a :: es).length < 20) : ((backTo p (starEach (a :: es) X.env)).all (fun x => !x.1) && (backToKw p (keywordEach [] X.env)).all (fun x => x.1.isSome)
      && decide ((a :: es).length + ([] : List Keyword).length + (if ([] : List Keyword).isEmpty then 0 else 1) < 30)) = true := by
  have h1 : (backTo p (starEach (a :: es) X.env)).all (fun x => !x.1) = true := by
    have q : ∀ {es : List Expr} {ms : List Sm}, SA X es ms → (backTo p (starEach es X.env)).all (fun x => !x.1) = true := fun {es ms} h => by
      induction h with
      | nil => rfl
      | @cons e es m ms h1 h2 h3 ih =>
        rw [h2]
        show (true && (backTo p (starEach es X.env)).all fun x => !x.1) = true
        rw [ih]; rfl
    exact q h
  rw [h1]
  show (true && true && decide _) = true
  simp only [Bool.and_self, Bool.true_and, decide_eq_true_eq]
  show (a :: es).length + 0 + 0 < 30
  omega

theorem snd_zero : Snd 0 := by
  refine ⟨?_, ?_, ?_, ?_, ?_, ?_, ?_, ?_, ?_, ?_, ?_, ?_⟩ <;> intros <;> rename_i h <;> first | cases h | (intros; rename_i h; cases h)
theorem binFz_rule {X : Cx} {cf : Cf} {p : Pos} {op : Operator} {f : D → D → PR} (h : binFz cf p op = some f) : ∃ r, OpR X (binaryOp op) r ∧ P2 X.K r f := by
  unfold binFz at h
  split at h
  · split at h
    · cases h; exact ⟨_, op_catF, p2_addF⟩
    · cases h
  · exact bin_rule h
theorem tupFz_rule {X : Cx} {cf : Cf} {q : Pos} {es : List Expr} {ms : List Sm} {k : Nat} {pos : Pos} (h : SA X es ms) : SE X (.Tuple es k pos) (tupFz cf q ms) := by
  unfold tupFz
  split
  · exact se_tupD h
  · exact se_tup h
theorem m2_of {X : Cx} {o e f : Expr} {m : Str} {apos pos : Pos} (h1 : plainBase o = true) (h2 : (apos.endLine == pos.line) = true) (ha : notStar e = true) (hb : notStar f = true) : M2 X o m apos e f pos := by
  have t : starEach [e, f] X.env = [(false, eval e X.env), (false, eval f X.env)] := by
    rw [star1 (X := X) ha [f], star1 (X := X) hb []]; rfl
  refine ⟨plain_base h1, ?_, h2, ?_⟩
  · rw [t]; rfl
  · rw [t]; rfl
theorem sndX {n : Nat} (S : Snd n) : ∀ cf X, Ctx cf X → ∀ e m, compX (n + 1) cf e = some m → SE X e m := by
  intro cf X C e m h
  unfold compX at h
  split at h
  · split at h
    · split at h
      · rename_i ma mb e1 e2
        cases h
        exact se_orT (S.E cf X C _ _ e1) (se_one (S.E cf X C _ _ e2))
      · cases h
    · cases h
  · split at h
    · rename_i hc
      obtain ⟨rfl, hx, hb, hs⟩ := hc
      rw [Option.map_eq_some_iff] at h
      obtain ⟨oo, e1, rfl⟩ := h
      exact se_boxed (se_sortDown (C.blt hb) hx (star1 hs) (S.O cf X C _ _ e1))
    · cases h
  · split at h
    · rename_i hc
      obtain ⟨rfl, rfl, hb, hs, hl⟩ := hc
      split at h
      · rename_i y e0
        split at h
        · rename_i hg
          split at h
          · rename_i js oa mb e1 e2 e3
            cases h
            obtain ⟨k, hr, _⟩ := C.lamc hl
            exact se_boxed (se_sortK C.calm (by have := hr.un; omega) (C.blt hb) (star1 hs) (C.lamK hl e0 hg e1 fun X' C' => S.E _ X' C' _ _ e3) (S.O cf X C _ _ e2))
          · cases h
        · cases h
      · cases h
    · cases h
  · split at h
    · cases h
    · split at h
      · rename_i oa ob e1 e2
        cases h
        exact se_step (S.O cf X C _ _ e1) (S.O cf X C _ _ e2)
      · cases h
  · split at h
    · rename_i hc
      obtain ⟨rfl, h1, h2⟩ := hc
      rw [Option.map_eq_some_iff] at h
      obtain ⟨mo, e1, rfl⟩ := h
      exact se_str0 PySem.F.slot_str_upper PySem.F.type_str_upper mt_upper pm_upper ⟨plain_base h1, h2⟩ (S.E cf X C _ _ e1)
    · cases h
  · split at h
    · rename_i hc
      obtain ⟨rfl, h1, h2, ha, hb⟩ := hc
      split at h
      · rename_i oo ma mb e1 e2 e3
        cases h
        exact se_get2 (by have := C.hu; omega) (m2_of h1 h2 ha hb) (S.O cf X C _ _ e1) (S.E cf X C _ _ e2) (S.E cf X C _ _ e3)
      · cases h
    · split at h
      · rename_i hc
        obtain ⟨rfl, h1, h2, ha, hb⟩ := hc
        split at h
        · rename_i oo ma mb e1 e2 e3
          cases h
          have sa : SA X _ [ma, mb] := .cons (S.E cf X C _ _ e2) (star1 ha _) (.cons (S.E cf X C _ _ e3) (star1 hb _) .nil)
          exact se_setd (by have := C.hu; omega) ⟨plain_base h1, h2, few1 sa (by show 2 < 20; decide)⟩ (S.O cf X C _ _ e1) sa
        · cases h
      · cases h
  · split at h
    · split at h
      · rename_i mk mv e1 e2
        cases h
        exact se_boxed (se_dict1T (by have := C.hu; omega) (S.E cf X C _ _ e1) (S.E cf X C _ _ e2))
      · cases h
    · cases h
  · cases h
theorem sndE {n : Nat} (S : Snd n) : ∀ cf X, Ctx cf X → ∀ e m, compE (n + 1) cf e = some m → SE X e m := by
  intro cf X C e m h
  unfold compE at h
  split at h
  · rename_i m' e1
    cases h
    exact S.X cf X C _ _ e1
  split at h
  · -- Constant
    rw [Option.map_eq_some_iff] at h
    obtain ⟨d, e1, rfl⟩ := h
    exact const_rule e1
  · -- Name
    split at h
    · rename_i i e1
      cases h
      obtain ⟨h1, h2, h3, h4⟩ := C.slot e1
      exact se_var h1 h2 h3 h4
    · split at h
      · rename_i hg
        split at h
        · rename_i d e1
          cases h
          obtain ⟨v, u, h1, h2, h3⟩ := C.cvs _ _ e1
          obtain ⟨hgl, hdb⟩ := C.glob hg
          exact se_const (pe_glob hgl h1 h2 hdb) h3
        · cases h
      · cases h
  · -- BinOp
    split at h
    · rename_i f oa ob e1 e2 e3
      cases h
      obtain ⟨r, h1, h2⟩ := binFz_rule (X := X) e1
      exact se_bin h1 h2 (S.O cf X C _ _ e2) (S.O cf X C _ _ e3)
    · cases h
  · -- Not
    rw [Option.map_eq_some_iff] at h
    obtain ⟨ma, e1, rfl⟩ := h
    exact se_not (S.E cf X C _ _ e1)
  · -- USub
    rw [Option.map_eq_some_iff] at h
    obtain ⟨oa, e1, rfl⟩ := h
    exact se_neg (S.O cf X C _ _ e1)
  · -- BoolOp
    exact S.B cf X C _ _ _ _ h
  · -- IfExp
    split at h
    · rename_i mc ma mb e1 e2 e3
      cases h
      exact se_if (S.T cf X C _ _ e1) (S.E cf X C _ _ e2) (S.E cf X C _ _ e3)
    · cases h
  · -- Compare
    split at h
    · cases h
    · rename_i hm
      split at h
      · rename_i f oa ob e1 e2 e3
        cases h
        obtain ⟨r, h1, h2, _⟩ := cmp_rule (X := X) C.hu e1
        exact se_cmp h1 (by simpa using hm) h2 (S.O cf X C _ _ e2) (S.O cf X C _ _ e3)
      · cases h
  · -- Compare, two
    split at h
    · cases h
    · rename_i hm
      split at h
      · rename_i f f' ma mb mc e1 e2 e3 e4 e5
        cases h
        obtain ⟨r, h1, h2, h3⟩ := cmp_rule (X := X) C.hu e1
        obtain ⟨r', h1', h2', _⟩ := cmp_rule (X := X) C.hu e2
        exact se_chain h1 h1' (by simpa using hm) h2 h3 h2' (S.E cf X C _ _ e3) (S.E cf X C _ _ e4) (S.E cf X C _ _ e5)
      · cases h
  · -- Tuple
    rw [Option.map_eq_some_iff] at h
    obtain ⟨ms, e1, rfl⟩ := h
    exact tupFz_rule (S.As cf X C _ _ e1)
  · -- List
    rw [Option.map_eq_some_iff] at h
    obtain ⟨ms, e1, rfl⟩ := h
    exact se_boxed (se_lst (S.As cf X C _ _ e1))
  · -- {}
    split at h
    · cases h
      exact se_boxed se_dictT
    · rw [Option.map_eq_some_iff] at h
      obtain ⟨ms, e1, rfl⟩ := h
      exact se_boxed (se_dict (S.Ps cf X C _ _ _ e1) (by show 0 ≤ 15; decide))
  · -- Dict
    split at h
    · rename_i hl
      rw [Option.map_eq_some_iff] at h
      obtain ⟨ms, e1, rfl⟩ := h
      exact se_boxed (se_dict (S.Ps cf X C _ _ _ e1) hl)
    · cases h
  · -- Slice
    split at h
    · rename_i oa ml mh e1 e2 e3
      cases h
      exact se_boxed (se_slice (S.O cf X C _ _ e1) (S.P cf X C _ _ e2) (S.P cf X C _ _ e3))
    · cases h
  · -- [::-1]
    rw [Option.map_eq_some_iff] at h
    obtain ⟨oa, e1, rfl⟩ := h
    exact se_boxed (se_rev (S.O cf X C _ _ e1))
  · -- Subscript
    split at h
    · rename_i hn
      split at h
      · rename_i oa oi e1 e2
        cases h
        exact se_ix (ix_all (by have := C.hu; omega)) (plainIx hn) p2_ix (S.O cf X C _ _ e1) (S.O cf X C _ _ e2)
      · cases h
    · cases h
  · -- Call
    exact S.C cf X C _ _ _ _ h
  · -- ListComp
    rw [Option.map_eq_some_iff] at h
    obtain ⟨ml, e1, rfl⟩ := h
    exact (comp_boxed (S.L cf X C _ _ _ _ _ _ e1)).se
  · cases h
theorem sndO {n : Nat} (S : Snd n) : ∀ cf X, Ctx cf X → ∀ e o, compO (n + 1) cf e = some o → SO X e o := by
  intro cf X C e o h
  unfold compO at h
  split at h
  · rename_i i e1
    cases h
    exact .pk (C.slotOpd e1)
  · rw [Option.map_eq_some_iff] at h
    obtain ⟨m, e1, rfl⟩ := h
    exact .ev (S.E cf X C _ _ e1)
theorem sndT {n : Nat} (S : Snd n) : ∀ cf X, Ctx cf X → ∀ e m, compT (n + 1) cf e = some m → ST X e m := by
  intro cf X C e m h
  unfold compT at h
  split at h
  · rw [Option.map_eq_some_iff] at h
    obtain ⟨ma, e1, rfl⟩ := h
    exact (st_not (S.T cf X C _ _ e1)).st
  · exact (S.BT cf X C _ _ _ _ h).st
  · split at h
    · cases h
    · rename_i hm
      split at h
      · rename_i f oa ob e1 e2 e3
        cases h
        obtain ⟨r, h1, h2, _⟩ := cmp_rule (X := X) C.hu e1
        exact st_cmp h1 (by simpa using hm) h2 (S.O cf X C _ _ e2) (S.O cf X C _ _ e3)
      · cases h
  · split at h
    · cases h
    · rename_i hm
      split at h
      · rename_i f f' ma mb mc e1 e2 e3 e4 e5
        cases h
        obtain ⟨r, h1, h2, h3⟩ := cmp_rule (X := X) C.hu e1
        obtain ⟨r', h1', h2', _⟩ := cmp_rule (X := X) C.hu e2
        exact st_chain h1 h1' (by simpa using hm) h2 h3 h2' (S.E cf X C _ _ e3) (S.E cf X C _ _ e4) (S.E cf X C _ _ e5)
      · cases h
  · split at h
    · rename_i hp
      rw [Option.map_eq_some_iff] at h
      obtain ⟨o, e1, rfl⟩ := h
      exact st_val (S.O cf X C _ _ e1) (plain_test hp)
    · cases h
theorem sndB {n : Nat} (S : Snd n) : ∀ cf X, Ctx cf X → ∀ op vs m pos, compB (n + 1) cf op vs = some m → SE X (.BoolOp op vs pos) m := by
  intro cf X C op vs m pos h
  unfold compB at h
  split at h
  · exact se_one (S.E cf X C _ _ h)
  · split at h
    · rename_i ma mb e1 e2
      cases h
      cases op with
      | And => exact se_and (S.E cf X C _ _ e1) (S.B cf X C _ _ _ _ e2)
      | Or => exact se_or (S.E cf X C _ _ e1) (S.B cf X C _ _ _ _ e2)
    · cases h
  · cases h
theorem sndBT {n : Nat} (S : Snd n) : ∀ cf X, Ctx cf X → ∀ op vs m pos, compBT (n + 1) cf op vs = some m → STw X (.BoolOp op vs pos) m := by
  intro cf X C op vs m pos h
  unfold compBT at h
  split at h
  · cases op with
    | And => exact st_and1 (S.T cf X C _ _ h)
    | Or => exact st_or1 (S.T cf X C _ _ h)
  · split at h
    · rename_i ma mb e1 e2
      cases h
      cases op with
      | And => exact st_and (S.T cf X C _ _ e1) (S.BT cf X C _ _ _ _ e2)
      | Or => exact st_or (S.T cf X C _ _ e1) (S.BT cf X C _ _ _ _ e2)
    · cases h
  · cases h
theorem sndAs {n : Nat} (S : Snd n) : ∀ cf X, Ctx cf X → ∀ es ms, compAs (n + 1) cf es = some ms → SA X es ms := by
  intro cf X C es ms h
  unfold compAs at h
  split at h
  · cases h; exact .nil
  · split at h
    · rename_i hs
      split at h
      · rename_i m ms' e1 e2
        cases h
        exact .cons (S.E cf X C _ _ e1) (star1 hs _) (S.As cf X C _ _ e2)
      · cases h
    · cases h
theorem sndPs {n : Nat} (S : Snd n) : ∀ cf X, Ctx cf X → ∀ ks vs ms, compPs (n + 1) cf ks vs = some ms → SPs X ks vs ms := by
  intro cf X C ks vs ms h
  unfold compPs at h
  split at h
  · cases h; exact .nil
  · split at h
    · rename_i mk mv ms' e1 e2 e3
      cases h
      exact .cons (S.E cf X C _ _ e1) (S.E cf X C _ _ e2) (S.Ps cf X C _ _ _ e3)
    · cases h
  · cases h
theorem sndP {n : Nat} (S : Snd n) : ∀ cf X, Ctx cf X → ∀ e m, compP (n + 1) cf e = some m → SP X e m := by
  intro cf X C e m h
  unfold compP at h
  split at h
  · cases h; exact .none
  · rw [Option.map_eq_some_iff] at h
    obtain ⟨m', e1, rfl⟩ := h
    exact .some (S.E cf X C _ _ e1)
end Y
namespace Y
variable [TabC]
open PySem L2

theorem FnK.of {cf : Cf} {X : Cx} (C : Ctx cf X) {x : Str} {F : Fn} {np : Nat} {dfl : List D} (h : cf.gl.lookup x = some (.fn F np dfl)) (k : Nat) : FnK X x F (dfl.drop k) := C.fns x F np dfl h k
theorem setCall_rule {cf : Cf} {X : Cx} (C : Ctx cf X) {x : Str} {a b : Expr} {f : D → PR} {o : Opd} {p0 pos : Pos} (h : setCall cf x a = some (b, f)) (bn : Bn X x) (ho : SO X b o) : SE X (.Call (.Name x p0) [a] [] pos) (cU f o) := by
  unfold setCall at h
  split at h
  · split at h
    · rename_i hc
      obtain ⟨rfl, h1, h2⟩ := hc
      have bn2 := C.blt h1
      split at h
      · rename_i hx; subst hx; cases h
        exact se_sortSet C.calm C.hu bn bn2 (star1 h2) ho
      · split at h
        · rename_i hx; subst hx; cases h
          exact se_lenSet C.calm bn bn2 (star1 h2) ho
        · cases h
    · cases h
  · cases h
theorem sndC {n : Nat} (S : Snd n) : ∀ cf X, Ctx cf X → ∀ f as p m, compC (n + 1) cf f as p = some m → SE X (.Call f as [] p) m := by
  intro cf X C f as p m h
  unfold compC at h
  split at h
  · -- a name
    rename_i x px
    split at h
    · rename_i hg
      split at h
      · -- a def
        rename_i F np dfl e1
        split at h
        · rw [Option.map_eq_some_iff] at h
          obtain ⟨ms, e2, rfl⟩ := h
          exact se_call (FnK.of C e1 _) (C.glob hg).1 (C.glob hg).2 (S.As cf X C _ _ e2)
        · cases h
      · cases h
      · split at h
        · rename_i hb
          have bn := C.bn hg hb
          split at h
          · -- one argument
            rename_i a
            split at h
            · rename_i b f e0
              rw [Option.map_eq_some_iff] at h
              obtain ⟨o, e1, rfl⟩ := h
              exact se_boxed (setCall_rule C e0 bn (S.O cf X C _ _ e1))
            split at h
            · rename_i hx
              split at h
              · rename_i hs
                rw [Option.map_eq_some_iff] at h
                obtain ⟨o, e1, rfl⟩ := h
                obtain ⟨hx, _⟩ := hx
                subst hx
                exact se_tupFz bn (star1 hs) (S.O cf X C _ _ e1)
              · cases h
            split at h
            · rename_i hs
              split at h
              · rename_i g o e1 e2
                cases h
                exact se_boxed (builtin1_rule C.calm C.hu e1 bn (star1 hs) (S.O cf X C _ _ e2))
              · cases h
            · cases h
          · -- two
            rename_i a b
            split at h
            · rename_i hx
              subst hx
              split at h
              · rename_i y py
                split at h
                · rename_i hc
                  simp only [Bool.and_eq_true] at hc
                  split at h
                  · rename_i T o e1 e2
                    cases h
                    exact se_isinst bn (C.blt hc.1) (type_rule e1) (star1 hc.2) (S.O cf X C _ _ e2)
                  · cases h
                · cases h
              · cases h
            · split at h
              · rename_i hs
                simp only [Bool.and_eq_true] at hs
                split at h
                · rename_i g oa ob e1 e2 e3
                  cases h
                  exact builtin2_rule C.calm C.hu e1 bn (star1 hs.1) (star1 hs.2) (S.O cf X C _ _ e2) (S.O cf X C _ _ e3)
                · cases h
              · cases h
          · cases h
        · cases h
    · cases h
  · -- a method
    rename_i o mm ap
    split at h
    · rename_i hc
      simp only [Bool.and_eq_true] at hc
      have mb : ∀ name, MB X o name ap p := fun name => ⟨plain_base hc.1, hc.2⟩
      split at h
      · rename_i hm
        subst hm
        split at h
        · rename_i a
          split at h
          · rename_i hs
            split at h
            · rename_i oo ma e1 e2
              cases h
              have sa : SA X [a] [ma] := .cons (S.E cf X C _ _ e2) (star1 hs _) .nil
              exact se_mu1 PySem.F.slot_list_append PySem.F.type_list_append mt_append pmu_append ⟨plain_base hc.1, hc.2, few1 sa (by show 1 < 20; decide)⟩ (S.O cf X C _ _ e1) sa
            · cases h
          · cases h
        · cases h
      · split at h
        · rename_i hm
          subst hm
          split at h
          · rw [Option.map_eq_some_iff] at h
            obtain ⟨oo, e1, rfl⟩ := h
            exact se_mu0 PySem.F.slot_list_pop PySem.F.type_list_pop mt_pop pmu_pop (mb _) (S.O cf X C _ _ e1)
          · rename_i a
            split at h
            · rename_i hs
              split at h
              · rename_i oo ma e1 e2
                cases h
                have sa : SA X [a] [ma] := .cons (S.E cf X C _ _ e2) (star1 hs _) .nil
                exact se_mu1 PySem.F.slot_list_pop PySem.F.type_list_pop mt_popAt pmu_popAt ⟨plain_base hc.1, hc.2, few1 sa (by show 1 < 20; decide)⟩ (S.O cf X C _ _ e1) sa
              · cases h
            · cases h
          · cases h
        split at h
        · rename_i hm
          subst hm
          split at h
          · rename_i a
            split at h
            · rename_i hs
              split at h
              · rename_i oo ma e1 e2
                cases h
                have sa : SA X [a] [ma] := .cons (S.E cf X C _ _ e2) (star1 hs _) .nil
                exact se_mu1 PySem.F.slot_list_extend PySem.F.type_list_extend mt_extR pmu_ext ⟨plain_base hc.1, hc.2, few1 sa (by show 1 < 20; decide)⟩ (S.O cf X C _ _ e1) sa
              · cases h
            · cases h
          · cases h
        split at h
        · rename_i hm
          subst hm
          split at h
          · rename_i a b
            split at h
            · rename_i hs
              simp only [Bool.and_eq_true] at hs
              split at h
              · rename_i oo ma mb' e1 e2 e3
                cases h
                have sa : SA X [a, b] [ma, mb'] := .cons (S.E cf X C _ _ e2) (star1 hs.1 _) (.cons (S.E cf X C _ _ e3) (star1 hs.2 _) .nil)
                exact se_mu1 PySem.F.slot_list_insert PySem.F.type_list_insert mt_insert pmu_insert ⟨plain_base hc.1, hc.2, few1 sa (by show 2 < 20; decide)⟩ (S.O cf X C _ _ e1) sa
              · cases h
            · cases h
          · cases h
        split at h
        · rename_i hm
          subst hm
          split at h
          · rw [Option.map_eq_some_iff] at h
            obtain ⟨oo, e1, rfl⟩ := h
            exact se_mu0 PySem.F.slot_list_clear PySem.F.type_list_clear mt_clear pmu_clear (mb _) (S.O cf X C _ _ e1)
          · cases h
        split at h
        · rename_i hm
          subst hm
          split at h
          · rename_i a
            split at h
            · rename_i hs
              split at h
              · rename_i oo ma e1 e2
                cases h
                have sa : SA X [a] [ma] := .cons (S.E cf X C _ _ e2) (star1 hs _) .nil
                exact se_index ⟨plain_base hc.1, hc.2, few1 sa (by show 1 < 20; decide)⟩ (star1 hs) (S.O cf X C _ _ e1) (S.E cf X C _ _ e2)
              · cases h
            · cases h
          · cases h
        · split at h
          · rename_i hm
            subst hm
            split at h
            · rw [Option.map_eq_some_iff] at h
              obtain ⟨oo, e1, rfl⟩ := h
              exact se_mu0 PySem.F.slot_list_reverse PySem.F.type_list_reverse mt_reverse pmu_rev (mb _) (S.O cf X C _ _ e1)
            · cases h
          · split at h
            · rename_i hm
              subst hm
              split at h
              · rename_i a
                split at h
                · rename_i hs
                  split at h
                  · rename_i mo oa e1 e2
                    cases h
                    exact se_str1 PySem.F.slot_str_join PySem.F.type_str_join mt_join pm_join (mb _) (star1 hs) (S.E cf X C _ _ e1) (S.O cf X C _ _ e2)
                  · cases h
                · cases h
              · cases h
            · cases h
    · cases h
  · cases h
theorem isTuple_of {e : Expr} (h : isTuple e = true) : ∃ es k p, e = .Tuple es k p := by
  cases e with
  | Tuple es k p => exact ⟨es, k, p, rfl⟩
  | _ => cases h
theorem sndI {n : Nat} (S : Snd n) : ∀ cf X, Ctx cf X → ∀ tg e m, compI (n + 1) cf tg e = some m → SI X tg e m := by
  intro cf X C tg e m h
  have plain : ∀ {e : Expr} {m : Im}, (compE n cf e).map iPlain = some m → SI X tg e m := fun {e m} h => by
    rw [Option.map_eq_some_iff] at h
    obtain ⟨m', e1, rfl⟩ := h
    exact si_plain (S.E cf X C _ _ e1)
  unfold compI at h
  split at h
  · rename_i x px as pc
    split at h
    · rename_i hb
      have bn := C.blt hb
      split at h
      · rename_i hx; subst hx
        split at h
        · split at h
          · rename_i hs
            rw [Option.map_eq_some_iff] at h
            obtain ⟨m', e1, rfl⟩ := h
            exact si_range1 bn (star1 hs) (S.E cf X C _ _ e1)
          · cases h
        · split at h
          · rename_i hs
            simp only [Bool.and_eq_true] at hs
            split at h
            · rename_i ma mb e1 e2
              cases h
              exact si_range2 bn (star1 hs.1) (star1 hs.2) (S.E cf X C _ _ e1) (S.E cf X C _ _ e2)
            · cases h
          · cases h
        · split at h
          · rename_i hs
            simp only [Bool.and_eq_true] at hs
            split at h
            · rename_i ma mb mc e1 e2 e3
              cases h
              exact si_range3 bn (star1 hs.1.1) (star1 hs.1.2) (star1 hs.2) (S.E cf X C _ _ e1) (S.E cf X C _ _ e2) (S.E cf X C _ _ e3)
            · cases h
          · cases h
        · cases h
      · split at h
        · rename_i hx; subst hx
          split at h
          · split at h
            · rename_i hs
              simp only [Bool.and_eq_true] at hs
              rw [Option.map_eq_some_iff] at h
              obtain ⟨m', e1, rfl⟩ := h
              obtain ⟨es, k, p, rfl⟩ := isTuple_of hs.2
              exact si_enum bn (star1 hs.1) (S.E cf X C _ _ e1)
            · cases h
          · cases h
        · split at h
          · rename_i hx; subst hx
            split at h
            · split at h
              · rename_i hs
                simp only [Bool.and_eq_true] at hs
                split at h
                · rename_i ma mb e1 e2
                  cases h
                  obtain ⟨es, k, p, rfl⟩ := isTuple_of hs.2
                  exact si_zip bn (star1 hs.1.1) (star1 hs.1.2) (S.E cf X C _ _ e1) (S.E cf X C _ _ e2)
                · cases h
              · cases h
            · cases h
          · split at h
            · rename_i hx; subst hx
              split at h
              · split at h
                · rename_i hs
                  rw [Option.map_eq_some_iff] at h
                  obtain ⟨m', e1, rfl⟩ := h
                  exact si_rev bn (star1 hs) (S.E cf X C _ _ e1)
                · cases h
              · cases h
            · exact plain h
    · exact plain h
  · exact plain h
theorem sndL {n : Nat} (S : Snd n) : ∀ cf X, Ctx cf X → ∀ elt tg iter ifs scope m, compL' (n + 1) cf elt tg iter ifs scope = some m → CompOk X elt tg iter ifs scope m := by
  intro cf X C elt tg iter ifs scope m h pos
  unfold compL' at h
  split at h
  · rename_i hc
    simp only [Bool.and_eq_true] at hc
    obtain ⟨bok, hk⟩ := C.blkOk hc.2
    split at h
    · rename_i mi t me e1 e2 e3
      split at h
      · rename_i hsl
        simp only [List.all_eq_true, decide_eq_true_eq] at hsl
        have hN : X.N.Nodup := by rw [C.N]; exact C.nd
        have hg : ∀ s H Cc cl fp, SG (Blk X scope s H Cc cl fp) tg t := fun s H Cc cl fp => (C.blk hk s H Cc cl fp).tg e2
        have he : ∀ s H Cc cl fp, SE (Blk X scope s H Cc cl fp) elt me := fun s H Cc cl fp => S.E _ _ (C.blk hk s H Cc cl fp) _ _ e3
        split at h
        · cases h
          exact se_lc C.calm hN (S.I cf X C _ _ _ e1) bok hg hsl .none he (not_set hc.1)
        · rename_i c
          rw [Option.map_eq_some_iff] at h
          obtain ⟨mc, e4, rfl⟩ := h
          exact se_lc C.calm hN (S.I cf X C _ _ _ e1) bok hg hsl (.some fun s H Cc cl fp => S.T _ _ (C.blk hk s H Cc cl fp) _ _ e4) he (not_set hc.1)
        · cases h
      · cases h
    · cases h
  · cases h
theorem snd : ∀ n, Snd n
  | 0 => snd_zero
  | n + 1 => have S := snd n
    ⟨sndX S, sndE S, sndO S, sndT S, sndB S, sndBT S, sndAs S, sndPs S, sndP S, sndC S, sndI S, sndL S⟩

/-! ### statements -/
/-- a, b = x, y: two names -/
def isLocK : Option NameKind → Bool
  | some .local => true
  | _ => false
def cPar (i j : Nat) (ma mb : Sm) : Sg := fun l g => sBind (ma l g) fun x _ l g => sBind (mb l g) fun y _ l g => .nx ((l.set i (some (.val x))).set j (some (.val y))) g
def compPair (cf : Cf) (ts : List Expr) (e : Expr) : Option Sg := match ts, e with
  | [.Name x px, .Name y py], .Tuple [a, b] _ _ => if isLocK (cf.sc.lookup x) && isLocK (cf.sc.lookup y) && decide (x ≠ y) && (py.line == px.line) && notStar a && notStar b && !([a, b].all (foldedForSure 8)) && !([a, b].all (constantsAlone 8)) then
      (match cf.N.findIdx? (fun z => z == x), cf.N.findIdx? (fun z => z == y), compE 60 cf a, compE 60 cf b with
      | some i, some j, some ma, some mb => some (cPar i j ma mb)
      | _, _, _, _ => none) else none
  | _, _ => none
def isCelK : Option NameKind → Bool
  | some .cell => true
  | _ => false
/-- a, b = ..: one of them in a cell -/
def pairCell (cf : Cf) : List Expr → Bool
  | [.Name x _, .Name y _] => isCelK (cf.sc.lookup x) || isCelK (cf.sc.lookup y)
  | _ => false
def isLComp : Expr → Bool
  | .ListComp .. => true
  | _ => false
/-- does x = [..] store within the block's end (so the model) -/
def swB (cf : Cf) (x : Str) (px : Pos) : Expr → Bool
  | .ListComp _ _ scope p => isLocK (cf.sc.lookup x) && (px.line == p.line) && !(scope.names.any fun (n, k) => n == x && (k == .local || k == .cell))
  | _ => false
where isLocK : Option NameKind → Bool
  | some .local => true
  | _ => false
/-- x is captured: no store within the block's end -/
def swC (cf : Cf) (x : Str) : Expr → Bool
  | .ListComp .. => isCellK (cf.sc.lookup x)
  | _ => false
where isCellK : Option NameKind → Bool
  | some .cell => true
  | _ => false
def dAddI : D → D → PR
  | .int a, .int b => .sh (.int (a + b))
  | _, _ => .no
def dSubI : D → D → PR
  | .int a, .int b => .sh (.int (a - b))
  | _, _ => .no
def augF : Operator → Option (D → D → PR)
  | .Add => some dAddI
  | .Sub => some dSubI
  | _ => none
/-- x op= e -/
def cAug (i : Nat) (f : D → D → PR) (m : Sm) : Sg := fun l g => match l[i]? with
  | some (some (.val x)) => sBind (m l g) fun y _ l g => match f x y with
    | .sh d => .nx (l.set i (some (.val d))) g
    | _ => .no
  | _ => .no
def cAsg (t : Tg) (m : Sm) : Sg := fun l g => sBind (m l g) fun d _ l g => match t.put d l g with
  | some l => .nx l g
  | none => .no
mutual
def compS : Nat → Cf → Stmt → Option Sg
  | 0, _, _ => none
  | n + 1, cf, s => (match s with
    | .Return none _ => some cRetN
    | .Return (some e) _ => match slotOpd cf e with
      | some i => some (cRetV i)
      | none => (compE 60 cf e).map cRet
    | .Expr e p => if notComp e then (compE 60 cf e).map cDrop else none
    | .Pass _ => some cNil
    | .Break _ => some cBrk
    | .Continue _ => some cCnt
    | .Assign [.Name x px] e p => match cf.lslot x, compE 60 cf e with
      | some i, some m => if notComp e || (isLComp e && swB cf x px e) || swC cf x e then some (cSet i m) else none
      | _, _ => none
    | .Assign [.Tuple ts k tp] e p => if notPair (.Tuple ts k tp) e || pairCell cf ts then (match compTg cf (.Tuple ts k tp), compE 60 cf e with
      | some t, some m => some (cAsg t m)
      | _, _ => none) else compPair cf ts e
    | .Raise _ _ _ => some fun _ _ => .no
    | .Assign [.Subscript o i tp] e p => if notSlice i then (match compE 60 cf e, compO 60 cf o, compE 60 cf i with
      | some me, some oo, some mi => some (cSt me oo mi)
      | _, _, _ => none) else none
    | .AugAssign (.Name x _) op e _ => match cf.lslot x, augF op, compE 60 cf e with
      | some i, some f, some m => some (cAug i f m)
      | _, _, _ => none
    | .If c a b _ => match compT 60 cf c, compSs n cf a, compSs n cf b with
      | some mc, some ma, some mb => some (cIfS mc ma mb)
      | _, _, _ => none
    | .While c b [] _ => match compT 60 cf c, compSs n cf b with
      | some mc, some mb => some (whl mc mb cf.wf)
      | _, _ => none
    | .For tg it b [] _ => if notSet it then (match compI 60 cf tg it, compTg cf tg, compSs n cf b with
      | some mi, some t, some mb => some (cFor mi t mb)
      | _, _, _ => none) else none
    | _ => none)
def compSs : Nat → Cf → List Stmt → Option Sg
  | 0, _, _ => none
  | n + 1, cf, ss => match ss with
    | [] => some cNil
    | s :: r => match compS n cf s, compSs n cf r with
      | some a, some b => some (cSq a b)
      | _, _ => none
end
end Y
namespace Y
variable [TabC]
open PySem L2

section
variable {X : Cx} {K : PySem.W.Frag} {W W1 : Wd} {H H1 : Hp} {σ σ1 : L2.St} {l l1 : Lc} {g g1 : Gs} {e : Expr} {m : Sm} {pos : Pos}
theorem ss_asg {tg : Expr} {t : Tg} (he : SE X e m) (hg : SG X tg t) (hs : swapsWithSole [tg] e pos.line X.env = pure false) (hw : swappedStores [tg] e X.env = pure none) (h1 : (assignEach [tg] X.env).map (·.2) = [assign tg X.env]) : SS X (.Assign [tg] e pos) (cAsg t m) := by
  intro σ H W l g D ok p
  refine tS.of (ps_asg pe_w pg_g hs hw h1) ?_
  refine he.bindSV ok p fun d f l1 g1 v W1 H1 p1 ok1 fr1 den => ?_
  cases et : t.put d l1 g1 with
  | none => rw [et] at p1; exact False.elim p1
  | some l2 =>
    rw [et] at p1
    exact hg σ H1 W1 l1 g1 v d l2 _ ok1 den et fun σ' ok2 fr2 _ => p1 σ' W1 H1 ok2 fr2
theorem ss_aug {i : Nat} {x : Str} {op : Operator} {f : D → D → PR} {p0 : Pos} (hN : X.N.Nodup) (hi : X.N[i]? = some x) (hx : Loc X.env.scope x) (hf : X.fn x = true ∨ X.env.scope.names.lookup x = some .local) (ho : augF op = some f) (he : SE X e m) :
    SS X (.AugAssign (.Name x p0) op e pos) (cAug i f m) := by
  intro σ H W l g D ok p
  have key : ∀ (ti : TIp), PIp X op ti → (∀ x y d v u H' W', f x y = .sh d → Den X.K W' H' v x → Den X.K W' H' u y → ∀ R : VK, (∀ z, Den X.K W' H' z d → R z H') → ti v u H' R) → tS X (.AugAssign (.Name x p0) op e pos) D σ H := by
    intro ti hti hr
    refine tS.of (ps_aug hN hi hx pe_w hti hf) ?_
    unfold cAug at p
    split at p
    · rename_i x0 e0
      obtain ⟨v, ev, den⟩ := ok.loc.val i x0 e0
      refine ⟨v, ev, he.bindSV ok p fun y fl l1 g1 u W1 H1 p1 ok1 fr1 den1 => ?_⟩
      cases ef : f x0 y with
      | sh d =>
        rw [ef] at p1
        refine hr x0 y d v u H1 W1 ef (den.le (ok.le fr1)) den1 _ fun z hz => ?_
        obtain ⟨ok2, fr2⟩ := ok1.setVal (i := i) hz
        exact p1 _ W1 H1 ok2 fr2
      | nw d => rw [ef] at p1; exact False.elim p1
      | no => rw [ef] at p1; exact False.elim p1
    · exact False.elim p
  cases op <;> simp only [augF, Option.some.injEq, reduceCtorEq] at ho <;> subst ho
  · refine key _ ip_add fun x y d v u H' W' ef dx dy R k => ?_
    unfold dAddI at ef
    split at ef
    · cases ef; cases dx; cases dy; exact ⟨_, _, rfl, rfl, k _ (.int _)⟩
    · cases ef
  · refine key _ ip_sub fun x y d v u H' W' ef dx dy R k => ?_
    unfold dSubI at ef
    split at ef
    · cases ef; cases dx; cases dy; exact ⟨_, _, rfl, rfl, k _ (.int _)⟩
    · cases ef
/-- x = [..] -/
theorem ss_setLc {cf : Cf} (C : Ctx cf X) {i : Nat} {x : Str} {px : Pos} {elt tg iter : Expr} {ifs : List Expr} {scope : Scope} {ep : Pos} (hi : X.N[i]? = some x) (hco : CompOk X elt tg iter ifs scope m)
    (hb : swB cf x px (.ListComp elt [⟨tg, iter, ifs, 0⟩] scope ep) = true) : SS X (.Assign [.Name x px] (.ListComp elt [⟨tg, iter, ifs, 0⟩] scope ep) pos) (cSet i m) := by
  simp only [swB, Bool.and_eq_true, Bool.not_eq_true'] at hb
  obtain ⟨⟨hk, hl⟩, ha⟩ := hb
  have hyl : X.env.scope.names.lookup x = some .local := by
    cases q : cf.sc.lookup x with
    | none => rw [q] at hk; cases hk
    | some k =>
      rw [q] at hk
      cases k with
      | «local» =>
        rcases C.rel x _ q with r | ⟨z, _⟩
        · exact r
        · cases z
      | _ => cases hk
  intro σ H W l g D ok p pins s I
  have hil : i < σ.length := by rw [I.len]; exact (List.getElem?_eq_some_iff.mp hi).1
  obtain ⟨te, h1, h2, h3⟩ := hco ep
  refine (tS.of (h2 hi hyl (sw_true C.kind hyl hl ha)) (D := D) ?_) pins s I
  refine h3 σ H W l g _ ok ?_
  cases e1 : m l g with
  | ok d f l1 g1 =>
    simp only [cSet, sBind, e1] at p
    exact fun v W' H' ok' f' r' => set_fin p ok' f' r' hil
  | ex c d l g => simp only [cSet, sBind, e1] at p; exact False.elim p
  | no => simp only [cSet, sBind, e1] at p; exact False.elim p
end
theorem sub_plain {o i : Expr} {tpos : Pos} {env : Env} (h : notSlice i = true) : ∀ v, assign (.Subscript o i tpos) env v = (do
      let ov ← holding [v] (eval o env)
      let iv ← holding [v, ov] (eval i env)
      standAt tpos
      holding [v, ov, iv] (setItem ov iv v)
      release [v, ov, iv] []) := fun v => by cases i <;> first | rfl | cases h
theorem sw_cell {X : Cx} {cf : Cf} (C : Ctx cf X) {x : Str} {px : Pos} {e : Expr} {n : Nat} (h : swC cf x e = true) : swapsWith e (some (.Name x px)) n X.env = pure false := by
  cases e with
  | ListComp elt gs scope p =>
    have hk : X.env.kindOf x = some .cell := by
      have h : swC.isCellK (cf.sc.lookup x) = true := h
      cases q : cf.sc.lookup x with
      | none => rw [q] at h; cases h
      | some k =>
        rw [q] at h
        cases k with
        | cell =>
          rcases C.rel x _ q with r | ⟨z, _⟩
          · exact r
          · cases z
        | _ => cases h
    have e0 : (some NameKind.cell == some NameKind.local) = false := rfl
    simp only [swapsWith, hk, e0, Bool.and_false, Bool.false_and]
  | _ => cases h
theorem locK_of {X : Cx} {cf : Cf} (C : Ctx cf X) {x : Str} (h : isLocK (cf.sc.lookup x) = true) : X.env.scope.names.lookup x = some .local := by
  cases q : cf.sc.lookup x with
  | none => rw [q] at h; cases h
  | some k =>
    rw [q] at h
    cases k with
    | «local» =>
      rcases C.rel x _ q with r | ⟨z, _⟩
      · exact r
      · cases z
    | _ => cases h
theorem celK_of {X : Cx} {cf : Cf} (C : Ctx cf X) {x : Str} (h : isCelK (cf.sc.lookup x) = true) : X.env.kindOf x = some .cell := by
  cases q : cf.sc.lookup x with
  | none => rw [q] at h; cases h
  | some k =>
    rw [q] at h
    cases k with
    | cell =>
      rcases C.rel x _ q with r | ⟨z, _⟩
      · exact r
      · cases z
    | _ => cases h
theorem fm_two {α β : Type} (f : α → Option β) (a b : α) (h : f a = none ∨ f b = none) : (List.filterMap f [a, b]).length ≠ [a, b].length := by
  rcases h with h | h
  · simp only [List.filterMap_cons, List.filterMap_nil, h]
    cases f b <;> simp
  · simp only [List.filterMap_cons, List.filterMap_nil, h]
    cases f a <;> simp
theorem swapped_cell {x y : Str} {px py pt : Pos} {kt : Nat} {e : Expr} {env : Env} (h : env.kindOf x = some .cell ∨ env.kindOf y = some .cell) : swappedStores [.Tuple [.Name x px, .Name y py] kt pt] e env = pure none := by
  have c0 : (some NameKind.cell == some NameKind.local) = false := rfl
  cases e with
  | Tuple vs k2 p2 =>
    unfold swappedStores
    dsimp only
    split
    · rfl
    · split
      · rfl
      · split
        · rfl
        · rename_i hc
          exfalso
          apply hc
          rw [Bool.or_eq_true]
          left
          rw [bne_iff_ne]
          refine fm_two _ _ _ ?_
          rcases h with h | h
          · left; simp only [h, c0, Bool.false_and]; rfl
          · right; simp only [h, c0, Bool.false_and]; rfl
  | _ => rfl
theorem pair_cell {X : Cx} {cf : Cf} (C : Ctx cf X) {ts : List Expr} {k : Nat} {tp : Pos} {e : Expr} (h : pairCell cf ts = true) : swappedStores [.Tuple ts k tp] e X.env = pure none := by
  unfold pairCell at h
  split at h
  · rw [Bool.or_eq_true] at h
    exact swapped_cell (h.imp (celK_of C) (celK_of C))
  · cases h
theorem swapped_two {X : Cx} {x y : Str} {px py pt pt2 : Pos} {kt k2 : Nat} {a b : Expr} (hk : X.env.scope.kind = .function) (hx : X.env.scope.names.lookup x = some .local) (hy : X.env.scope.names.lookup y = some .local) (hne : x ≠ y) (hl : (py.line == px.line) = true)
    (sa : notStar a = true) (sb : notStar b = true) (hf : [a, b].all (foldedForSure 8) = false) (hc : [a, b].all (constantsAlone 8) = false) :
    swappedStores [.Tuple [.Name x px, .Name y py] kt pt] (.Tuple [a, b] k2 pt2) X.env = pure (some [x, y]) := by
  have hb : X.env.blockKind = .function := by unfold Env.blockKind; rw [hk]; rfl
  have k1 : X.env.kindOf x = some .local := hx
  have k2 : X.env.kindOf y = some .local := hy
  have ed : [x, y].eraseDups = [x, y] := by
    have h1 : (y == x) = false := by simpa using fun e => hne e.symm
    have h2 : (x == y) = false := by simpa using hne
    simp [List.eraseDups, List.eraseDupsBy, List.eraseDupsBy.loop, h1, h2]
  have hl' : py.line = px.line := by simpa using hl
  unfold swappedStores
  simp [hb, List.any_cons, hl', ed]
  rw [if_neg (by
    rintro (h | h)
    · cases a <;> first | (cases sa; done) | (cases h; done)
    · cases b <;> first | (cases sb; done) | (cases h; done))]
  have hf' : ¬ (foldedForSure 8 a = true ∧ foldedForSure 8 b = true) := by simpa using hf
  have hc' : ¬ (constantsAlone 8 a = true ∧ constantsAlone 8 b = true) := by simpa using hc
  simp only [List.filterMap_cons, List.filterMap_nil, k1, k2]
  have i1 : (if True ∧ px.line = (Expr.Name x px).pos.line then some x else none) = some x := if_pos ⟨trivial, rfl⟩
  have i2 : (if True ∧ py.line = (Expr.Name x px).pos.line then some y else none) = some y := if_pos ⟨trivial, hl'⟩
  simp only [i1, i2, ed, List.length_cons, List.length_nil, hf', hc', if_false]
  rfl
theorem ss_par {X : Cx} {i j : Nat} {x y : Str} {a b : Expr} {px py pt pt2 pos : Pos} {kt k2 : Nat} {ma mb : Sm} (hcalm : X.calm = true) (hN : X.N.Nodup) (hi : X.N[i]? = some x) (hj : X.N[j]? = some y) (hne : x ≠ y) (hk : X.env.scope.kind = .function)
    (hx : X.env.scope.names.lookup x = some .local) (hy : X.env.scope.names.lookup y = some .local) (hl : (py.line == px.line) = true) (sa : notStar a = true) (sb : notStar b = true) (hf : [a, b].all (foldedForSure 8) = false) (hc : [a, b].all (constantsAlone 8) = false)
    (ha : SE X a ma) (hb : SE X b mb) : SS X (.Assign [.Tuple [.Name x px, .Name y py] kt pt] (.Tuple [a, b] k2 pt2) pos) (cPar i j ma mb) := by
  intro σ H W l g D ok p
  have hij : i ≠ j := fun e => hne (by rw [e, hj] at hi; exact (Option.some.inj hi).symm)
  refine tS.of (ps_par hcalm hN hi hj hij hx hy (pa_cons pe_w (pa_cons pe_w pa_nil (star1 sb [])) (star1 sa [b])) (swapped_two hk hx hy hne hl sa sb hf hc)) ?_
  refine ha.bindSV ok p fun d f l1 g1 v W1 H1 p1 ok1 fr1 den => hb.bindSV ok1 p1 fun d2 f2 l2 g2 u W2 H2 p2 ok2 fr2 den2 => ?_
  obtain ⟨ok3, fr3⟩ := ok2.setVal (i := i) (den.le (ok1.le fr2))
  obtain ⟨ok4, fr4⟩ := ok3.setVal (i := j) den2
  exact ⟨v, u, rfl, p2 _ W2 H2 ok4 (fr3.trans fr4)⟩
structure SndS (n : Nat) : Prop where
  S : ∀ cf X, Ctx cf X → ∀ s m, compS n cf s = some m → SS X s m
  Ss : ∀ cf X, Ctx cf X → ∀ ss m, compSs n cf ss = some m → SSs X ss m
theorem isLComp_of {e : Expr} (h : isLComp e = true) : ∃ elt gs sc p, e = .ListComp elt gs sc p := by
  cases e with
  | ListComp a b c d => exact ⟨a, b, c, d, rfl⟩
  | _ => cases h
theorem compE_lc {n : Nat} {cf : Cf} {elt : Expr} {gs : List Comprehension} {scope : Scope} {p : Pos} {m : Sm} (h : compE (n + 1) cf (.ListComp elt gs scope p) = some m) :
    ∃ tg iter ifs m', gs = [⟨tg, iter, ifs, 0⟩] ∧ compL' n cf elt tg iter ifs scope = some m' ∧ m = boxed cf p m' := by
  have hx : compX n cf (.ListComp elt gs scope p) = none := by cases n <;> rfl
  generalize he : Expr.ListComp elt gs scope p = e at h hx
  unfold compE at h
  rw [hx] at h
  simp only at h
  split at h <;> first | (cases he; done) | skip
  · cases he
    rw [Option.map_eq_some_iff] at h
    obtain ⟨m', e1, rfl⟩ := h
    exact ⟨_, _, _, m', rfl, e1, rfl⟩
  · cases h
theorem sndS1 {n : Nat} (S : SndS n) : ∀ cf X, Ctx cf X → ∀ s m, compS (n + 1) cf s = some m → SS X s m := by
  intro cf X C s m h
  have hN : X.N.Nodup := by rw [C.N]; exact C.nd
  unfold compS at h
  split at h
  · cases h; exact ss_retN
  · split at h
    · rename_i i e1
      cases h
      exact ss_retV (C.slotOpd e1)
    · rw [Option.map_eq_some_iff] at h
      obtain ⟨m', e1, rfl⟩ := h
      exact ss_ret ((snd 60).E cf X C _ _ e1)
  · split at h
    · rename_i hc
      rw [Option.map_eq_some_iff] at h
      obtain ⟨m', e1, rfl⟩ := h
      exact ss_drop ((snd 60).E cf X C _ _ e1) (not_comp hc)
    · cases h
  · cases h; exact ss_pass
  · cases h; exact ss_break
  · cases h; exact ss_cont
  · -- x = e
    rename_i x px e p
    split at h
    · rename_i i m' e1 e2
      obtain ⟨h1, h2, h3⟩ := C.lslot e1
      split at h
      · rename_i hc
        cases h
        by_cases hn : notComp e = true
        · exact ss_set hN h1 h2 h3 ((snd 60).E cf X C _ _ e2) (not_comp hn)
        · simp only [Bool.or_eq_true, Bool.and_eq_true] at hc
          rcases hc with (hc | ⟨hc, hb⟩) | hc
          · exact absurd hc hn
          · obtain ⟨elt, gs, sc, ep, rfl⟩ := isLComp_of hc
            obtain ⟨tg, iter, ifs, m2, rfl, e3, rfl⟩ := compE_lc e2
            exact ss_setLc C h1 (comp_boxed ((snd 59).L cf X C _ _ _ _ _ _ e3)) hb
          · exact ss_set hN h1 h2 h3 ((snd 60).E cf X C _ _ e2) (sw_cell C hc)
      · cases h
    · cases h
  · -- a, b = e
    rename_i ts k tp e p
    split at h
    · rename_i hp
      split at h
      · rename_i t m' e1 e2
        cases h
        have hw : swappedStores [.Tuple ts k tp] e X.env = pure none := by
          rw [Bool.or_eq_true] at hp
          rcases hp with hp | hp
          · exact not_pair hp
          · exact pair_cell C hp
        exact ss_asg ((snd 60).E cf X C _ _ e2) (C.tg e1) (not_name rfl) hw rfl
      · cases h
    · unfold compPair at h
      split at h
      · rename_i x px y py a b k2 p2
        split at h
        · rename_i hc
          simp only [Bool.and_eq_true, decide_eq_true_eq, Bool.not_eq_true'] at hc
          obtain ⟨⟨⟨⟨⟨⟨⟨c1, c2⟩, c3⟩, c4⟩, c5⟩, c6⟩, c7⟩, c8⟩ := hc
          split at h
          · rename_i i j ma mb e1 e2 e3 e4
            cases h
            exact ss_par C.calm hN (by rw [C.N]; exact findIdx_some e1) (by rw [C.N]; exact findIdx_some e2) c3 C.kind (locK_of C c1) (locK_of C c2) c4 c5 c6 c7 c8 ((snd 60).E cf X C _ _ e3) ((snd 60).E cf X C _ _ e4)
          · cases h
        · cases h
      · cases h
  · -- raise
    cases h
    intro σ H W l g D ok p
    exact False.elim p
  · -- o[i] = e
    split at h
    · rename_i hn
      split at h
      · rename_i me oo mi e1 e2 e3
        cases h
        exact ss_store (by have := C.hu; omega) ((snd 60).E cf X C _ _ e1) ((snd 60).O cf X C _ _ e2) ((snd 60).E cf X C _ _ e3) (sub_plain hn) (not_name rfl) (not_pair rfl)
      · cases h
    · cases h
  · -- x op= e
    split at h
    · rename_i i f m' e1 e2 e3
      cases h
      obtain ⟨h1, h2, h3⟩ := C.lslot e1
      exact ss_aug hN h1 h2 h3 e2 ((snd 60).E cf X C _ _ e3)
    · cases h
  · -- if
    split at h
    · rename_i mc ma mb e1 e2 e3
      cases h
      exact ss_if ((snd 60).T cf X C _ _ e1) (S.Ss cf X C _ _ e2) (S.Ss cf X C _ _ e3)
    · cases h
  · -- while
    split at h
    · rename_i mc mb e1 e2
      cases h
      exact ss_while C.po ((snd 60).T cf X C _ _ e1) (S.Ss cf X C _ _ e2)
    · cases h
  · -- for
    split at h
    · rename_i hs
      split at h
      · rename_i mi t mb e1 e2 e3
        cases h
        exact ss_for C.po C.calm ((snd 60).I cf X C _ _ _ e1) (C.tg e2) (S.Ss cf X C _ _ e3) (not_set hs)
      · cases h
    · cases h
  · cases h
theorem sndSs1 {n : Nat} (S : SndS n) : ∀ cf X, Ctx cf X → ∀ ss m, compSs (n + 1) cf ss = some m → SSs X ss m := by
  intro cf X C ss m h
  unfold compSs at h
  split at h
  · cases h; exact ss_nil
  · split at h
    · rename_i a b e1 e2
      cases h
      exact ss_cons (S.S cf X C _ _ e1) (S.Ss cf X C _ _ e2)
    · cases h
theorem sndS : ∀ n, SndS n
  | 0 => ⟨fun _ _ _ _ _ h => (nomatch h), fun _ _ _ _ _ h => (nomatch h)⟩
  | n + 1 => ⟨sndS1 (sndS n), sndSs1 (sndS n)⟩

/-! ### defs -/
def srER (r : SR) : ER := match r with
  | .nx _ g => .ok .non false [] g
  | .rt d f g => .ok d f [] g
  | .ex c d _ g => .ex c d [] g
  | _ => .no
/-- a def's meaning, from its body's -/
def runD (nN np : Nat) (b : Sg) : Fn := fun ds g => if ds.length = np then srER (b (loc0 nN ds) g) else .no
theorem spD_len {K : PySem.W.Frag} {nN np : Nat} {b : Sg} {vs : List V} {H : Hp} {Q : VK} {E : XK} (h : spD K (runD nN np b) vs H Q E) : vs.length = np := by
  obtain ⟨W, g, ds, h1, h2, h3⟩ := h
  unfold runD at h3
  split at h3
  · rename_i hl; rw [h1.length]; exact hl
  · exact False.elim h3
open PySem.Spec PyProof.Rows in
theorem FunD_okC {P : Program} {w : World} {K : PySem.W.Frag} {mg : Str → Option Value} {base : Heap} {x qual : Str} {params : Arguments} {body : List Stmt} {scope : Scope} {dvs : List V} {kws : List (Str × V)} {f : Addr} {fd : FuncData} {N ps : List Str} {k : Nat} {sp : Sp} (F : FunD K x qual params body scope dvs kws f fd) (S : FnScope N ps scope) (len : ∀ vs H Q, sp vs H Q E0 → vs.length = ps.length)
    (hbody : ∀ (A : Around) (outer : List Env) (s : Shared) (H : Hp) (vs : List V) (Q : VK), Room k (A.deeper (envOfC qual scope s.heap.objs.size f fd.code)) → A.guards = some [] → sp vs H Q E0 →
      ∃ t, PSs (cxOf CX0 P w K mg base N qual scope f fd.code A outer s H E0) body t ∧ t { nx := fun _ H' => Q .non H', rt := Q } (L2.start N vs) H) : FnG P w K mg base (k + 1) f fd ps sp := by
  obtain ⟨oc, od, dV, kV, doc, pm, an, cdv, ct, osl, rfl, lk, hcd, _, _⟩ := F.ex
  exact ⟨len, fun A outer s H args us vs Q hr gd e0 hb r q => LamX.run_ofS lk hcd S hr e0 hb r (len _ _ _ q) fun hr' => hbody A outer s H vs Q hr' gd q⟩
/-- THE RULE: a def keeps the promise that its meaning makes -/
theorem def_ok {P : Program} {w : World} {K : PySem.W.Frag} {mg : Str → Option Value} {base : Heap} {x qual : Str} {st : Stmt} {f : Addr} {fd : FuncData} {ps : List Str} {k : Nat} {cf : Cf} {b : Sg} {n : Nat}
    {dvs : List V} {kws : List (Str × V)} (F : FunD K x qual (defArgs st) (defBody st) (defScope st) dvs kws f fd) (S : FnScope cf.N ps (defScope st)) (hb : compSs n cf (defBody st) = some b)
    (hC : ∀ (A : Around) (outer : List Env) (s : Shared) (H : Hp), Room k (A.deeper (PyProof.Rows.envOfC qual (defScope st) s.heap.objs.size f fd.code)) → A.guards = some [] →
      Ctx cf (cxOf CX0 P w K mg base cf.N qual (defScope st) f fd.code A outer s H E0).nox) :
    FnG P w K mg base (k + 1) f fd ps (spD K (runD cf.N.length ps.length b)) := by
  refine FunD_okC F S (fun vs H Q h => spD_len h) fun A outer s H vs Q hr gd h => ?_
  have C := hC A outer s H hr gd
  have hS := (sndS n).Ss cf _ C _ _ hb
  obtain ⟨W, g, ds, h1, h2, h3⟩ := h
  have hlen : ds.length = ps.length := by
    unfold runD at h3
    split at h3
    · assumption
    · exact False.elim h3
  have hpl : ps.length ≤ cf.N.length := by have := congrArg List.length S.pre; rw [List.length_take] at this; omega
  have ok : Ok K W (loc0 cf.N.length ds) g (L2.start cf.N vs) H := loc0_ok h2 h1 (by omega)
  refine ⟨_, (pss_s (X := (cxOf CX0 P w K mg base cf.N qual (defScope st) f fd.code A outer s H E0).nox)).nox, hS (L2.start cf.N vs) H W _ g _ ok ?_⟩
  unfold runD at h3
  rw [if_pos hlen] at h3
  have fr0 : ∀ {W' : Wd} {H' : Hp} {O' : Addr → Prop}, Fr W H (OwnA (loc0 cf.N.length ds) (L2.start cf.N vs)) W' H' O' → Fr W H noOwn W' H' noOwn := fun {W' H' O'} f => by
    refine ⟨?_, f.sub, fun a h => ?_, fun a o h nt h1 _ h3 => f.keep a o h nt h1 no_own0 h3, f.dom, fun _ z => z.elim, fun a o h nt h1 _ => f.keepF a o h nt h1 no_own0⟩
    · obtain ⟨m, e, hm⟩ := f.mu
      exact ⟨m, e, fun a ha => (hm a ha).elim .inl fun z => (no_own0 z).elim⟩
    · rcases f.new a h with q | q | q
      · exact .inl q
      · exact .inr (.inl q)
      · exact (no_own0 q).elim
  cases hr' : b (loc0 cf.N.length ds) g with
  | nx l' g' =>
    rw [hr'] at h3
    exact fun σ' W' H' ok' f' => h3 .non W' H' ok'.rep (fr0 f') .non
  | rt d fl g' =>
    rw [hr'] at h3
    intro v W' H' rep f' r
    refine h3 v W' H' rep (fr0 f') ?_
    cases fl with
    | false => exact r
    | true =>
      obtain ⟨a, e, ob, n1, n2, n3, z⟩ := r
      exact ⟨a, e, ob, n1, n2, n3, z.elim .inl fun z => (no_own0 z).elim⟩
  | bk l' g' => rw [hr'] at h3; exact False.elim h3
  | ct l' g' => rw [hr'] at h3; exact False.elim h3
  | ex c d l' g' => rw [hr'] at h3; exact False.elim h3
  | no => rw [hr'] at h3; exact False.elim h3
end Y
namespace Y
variable [TabC]
open PySem L2

/-! ### a text of defs that call one another, by depth -/
structure DefE where
  x : Str
  st : Stmt
  N : List Str
  ps : List Str
  bx : List (Nat × Nat)
  tx : List (Nat × Nat)
  fz : List (Nat × Nat)
  dfl : List D
  wf : Nat
  lam : Bool
def glFns (F : Nat → Fn) : Nat → List DefE → List (Str × Gv)
  | _, [] => []
  | i, e :: es => (e.x, .fn (F i) e.ps.length e.dfl) :: glFns F (i + 1) es
def glCvs : List (Str × D) → List (Str × Gv)
  | [] => []
  | (x, d) :: r => (x, .cv d) :: glCvs r
def cfOf (T : List DefE) (bns : List Str) (cs : List (Str × D)) (F : Nat → Fn) (e : DefE) : Cf :=
  ⟨e.N, (defScope e.st).names, glFns F 0 T ++ glCvs cs, bns, e.bx, e.tx, e.fz, e.wf, e.lam⟩
def fnS (T : List DefE) (b : Nat → (Nat → Fn) → Sg) : Nat → Nat → Fn
  | 0, _ => fun _ _ => .no
  | d + 1, j => match T[j]? with
    | some e => runD e.N.length e.ps.length (b j (fnS T b d))
    | none => fun _ _ => .no
theorem glFns_lookup {F : Nat → Fn} {x : Str} {g : Gv} : ∀ {es : List DefE} {i : Nat}, (glFns F i es).lookup x = some g → ∃ j e, es[j]? = some e ∧ e.x = x ∧ g = .fn (F (i + j)) e.ps.length e.dfl
  | [], _, h => by cases h
  | e :: es, i, h => by
    unfold glFns at h
    rw [List.lookup_cons] at h
    split at h
    · rename_i hx
      cases h
      exact ⟨0, e, rfl, (by simpa using hx : x = e.x).symm, rfl⟩
    · obtain ⟨j, e', h1, h2, h3⟩ := glFns_lookup h
      exact ⟨j + 1, e', h1, h2, by rw [h3, show i + 1 + j = i + (j + 1) by omega]⟩
theorem glCvs_lookup {x : Str} {g : Gv} : ∀ {cs : List (Str × D)}, (glCvs cs).lookup x = some g → ∃ d, (x, d) ∈ cs ∧ g = .cv d
  | [], h => by cases h
  | (y, d) :: r, h => by
    unfold glCvs at h
    rw [List.lookup_cons] at h
    split at h
    · rename_i hx
      cases h
      have hx : x = y := by simpa using hx
      subst hx
      exact ⟨d, List.mem_cons_self, rfl⟩
    · obtain ⟨d', h1, h2⟩ := glCvs_lookup h
      exact ⟨d', List.mem_cons_of_mem _ h1, h2⟩
theorem gl_lookup {F : Nat → Fn} {T : List DefE} {cs : List (Str × D)} {x : Str} {g : Gv} (h : (glFns F 0 T ++ glCvs cs).lookup x = some g) :
    (∃ j e, T[j]? = some e ∧ e.x = x ∧ g = .fn (F j) e.ps.length e.dfl) ∨ ∃ d, (x, d) ∈ cs ∧ g = .cv d := by
  rw [List.lookup_append] at h
  cases q : (glFns F 0 T).lookup x with
  | some g' =>
    rw [q] at h
    cases h
    obtain ⟨j, e, h1, h2, h3⟩ := glFns_lookup q
    exact .inl ⟨j, e, h1, h2, by rw [h3, Nat.zero_add]⟩
  | none =>
    rw [q] at h
    exact .inr (glCvs_lookup h)
/-- what the top has written -/
structure DefK (K : PySem.W.Frag) (mg : Str → Option Value) (e : DefE) (f : Addr) (fd : FuncData) : Prop where
  F : ∃ dvs, FunD K e.x e.x (defArgs e.st) (defBody e.st) (defScope e.st) dvs [] f fd
  S : FnScope e.N e.ps (defScope e.st)
  m : mg e.x = some (.ref f)
  b : ∀ k, ∃ (dvs : List V) (ds : List Value), Binds K fd e.ps ds ∧ Vals dvs ds ∧ Fixed K dvs (e.dfl.drop k)
structure Txt (K : PySem.W.Frag) (mg : Str → Option Value) (T : List DefE) (bns : List Str) (cs : List (Str × D)) : Prop where
  fns : ∀ (j : Nat) (e : DefE), T[j]? = some e → ∃ f fd, DefK K mg e f fd
  bns : ∀ x, x ∈ bns → mg x = none ∧ x ≠ "__name__"
  cvs : ∀ x d, (x, d) ∈ cs → ∃ v u, mg x = some u ∧ RelV v u ∧ ∀ W H, Den K W H v d
/-- what is known of the tables of the defs that make lambdas -/
def LamsK (K : PySem.W.Frag) (mg : Str → Option Value) (base : Heap) (T : List DefE) : Prop := ∀ (j : Nat) (e : DefE) (f : Addr) (fd : FuncData), T[j]? = some e → DefK K mg e f fd → e.lam = true →
  ∃ c P, LamX.TabB base mg c P ∧ fd.code = .ref c ∧ (P, (e.x ++ ".<locals>.") ++ "<lambda>") ∈ TabC.T ∧ ∀ p ∈ TabC.T, p.1 = P → p.2 = (e.x ++ ".<locals>.") ++ "<lambda>"
theorem prog_ok {P : Program} {w : World} {K : PySem.W.Frag} {mg : Str → Option Value} {base : Heap} {T : List DefE} {bns : List Str} {cs : List (Str × D)} {b : Nat → (Nat → Fn) → Sg} {n : Nat} (X : Txt K mg T bns cs) (hL : LamsK K mg base T)
    (hb : ∀ (j : Nat) (e : DefE) (F : Nat → Fn), T[j]? = some e → compSs n (cfOf T bns cs F e) (defBody e.st) = some (b j F)) :
    ∀ (d j : Nat) (e : DefE) (f : Addr) (fd : FuncData), T[j]? = some e → DefK K mg e f fd → FnG P w K mg base (4 * d) f fd e.ps (spD K (fnS T b d j))
  | 0, j, e, f, fd, he, hk => by
    refine ⟨fun vs H Q h => ?_, fun A outer s H args us vs Q _ _ _ _ _ h => ?_⟩ <;>
    · obtain ⟨W, g, ds, _, _, h3⟩ := h
      exact False.elim h3
  | d + 1, j, e, f, fd, he, hk => by
    obtain ⟨dvs0, hF⟩ := hk.F
    have key := def_ok (P := P) (w := w) (mg := mg) (base := base) (k := 4 * d + 3) hF hk.S (hb j e (fnS T b d) he) fun A outer s H hr gd => ?_
    · unfold fnS
      rw [he]
      exact key
    · have at0 : ∀ x F np dfl, (glFns (fnS T b d) 0 T ++ glCvs cs).lookup x = some (Gv.fn F np dfl) → ∀ k, FnK0 (cxOf CX0 P w K mg base e.N e.x (defScope e.st) f fd.code A outer s H E0).nox (4 * d) x F (dfl.drop k) := fun x F np dfl h k => by
        rcases gl_lookup h with ⟨j', e', h1, h2, h3⟩ | ⟨d', _, h3⟩
        · cases h3
          obtain ⟨f', fd', hk'⟩ := X.fns j' e' h1
          subst h2
          obtain ⟨dvs, ds, hbd, hv, hfx⟩ := hk'.b k
          obtain ⟨_, hF'⟩ := hk'.F
          refine ⟨f', fd', e'.ps, dvs, ds, ?_, hk'.m, hF'.kp, hbd, hv, hfx⟩
          exact prog_ok X hL hb d j' e' f' fd' h1 hk'
        · cases h3
      refine ⟨rfl, hk.S.kind, rfl, hk.S.nd, fun x k h => .inl h, fun x h => rfl, ?_, PassesOwn.never, fun x hx => X.bns x hx, fun x F np dfl h k => (at0 x F np dfl h k).at (hr.mono (by omega)) gd, fun x d' h => ?_, gd, fun hl => ?_⟩
      · have := hr.un
        show (A.deeper _).units + 65 < cLine
        omega
      · rcases gl_lookup h with ⟨j', e', h1, h2, h3⟩ | ⟨d2, h2, h3⟩
        · cases h3
        · cases h3
          exact X.cvs x _ h2
      · obtain ⟨c, Pt, h1, h2, h3, h4⟩ := hL j e f fd he hk hl
        exact ⟨4 * d, hr, at0, c, Pt, h1, h2, h3, h4⟩
/-- at the end: the one list of ints -/
theorem sp_end {K : PySem.W.Frag} {F : Fn} {H : Hp} {a : Addr} {ns : List Int} {f : Bool} {l : Lc} {g : Gs} (hT : Tbs H) (hS : SqL K H a (ns.map V.int)) (h : F [.clst (ns.map D.int)] [] = .ok (.bl true) f l g) :
    spD K F [.ref a] H (fun v _ => v = .bl true) fun _ _ _ => False := by
  obtain ⟨W, hmu, hF, hq⟩ : ∃ W : Wd, W.mu = [] ∧ (∀ b, W.F b → ∃ o, H b = some o ∧ Plain o) ∧ SqC K W H a (ns.map V.int) := by
    rcases hS with (h | h) | h
    · exact ⟨⟨[], fun b => b = a⟩, rfl, fun b e => ⟨.lst (ns.map V.int), by have e : b = a := e; rw [e]; exact h, .lst⟩, .inl ⟨rfl, h⟩⟩
    · exact ⟨⟨[], fun _ => False⟩, rfl, fun b e => e.elim, .inr (.inl h)⟩
    · exact ⟨⟨[], fun _ => False⟩, rfl, fun b e => e.elim, .inr (.inr h)⟩
  have hi : ∀ ns : List Int, DenL K W H (ns.map V.int) (ns.map D.int) := fun ns => by
    induction ns with
    | nil => exact .nil
    | cons n ns ih => exact .cons (.int n) ih
  refine ⟨W, [], [.clst (ns.map D.int)], .cons (.clst hq (hi ns)) .nil, ⟨by rw [hmu]; rfl, by rw [hmu]; exact List.nodup_nil, fun n a b h => by rw [hmu] at h; simp at h, fun a _ => by rw [hmu]; simp, hF, hT⟩, ?_⟩
  rw [h]
  intro v W' H' _ _ res
  cases f with
  | false => cases res; rfl
  | true =>
    obtain ⟨_, _, ob, _⟩ := res
    cases ob
end Y
namespace Y
variable [TabC]
open PySem L2

/-! ### what a meaning must come to: reckoned backwards -/
@[irreducible] def ER.To (r : ER) (P : D → Bool → Lc → Gs → Prop) : Prop := match r with
  | .ok d f l g => P d f l g
  | _ => False
@[irreducible] def SR.To (r : SR) (N : Lc → Gs → Prop) (R : D → Bool → Gs → Prop) (B C : Lc → Gs → Prop) : Prop := match r with
  | .nx l g => N l g
  | .rt d f g => R d f g
  | .bk l g => B l g
  | .ct l g => C l g
  | _ => False
@[irreducible] def PR.To (r : PR) (P : D → Bool → Prop) : Prop := match r with
  | .sh d => P d false
  | .nw d => P d true
  | .no => False
@[irreducible] def IR.To (r : IR) (P : List D → Gd → Lc → Gs → Prop) : Prop := match r with
  | .ok ds gd l g => P ds gd l g
  | .no => False
def OTo {α : Type} (o : Option α) (P : α → Prop) : Prop := match o with
  | some x => P x
  | none => False
section
variable {P : D → Bool → Lc → Gs → Prop} {N B C : Lc → Gs → Prop} {R : D → Bool → Gs → Prop} {l : Lc} {g : Gs} {Q : D → Bool → Prop}
@[simp] theorem OTo_some {α : Type} {x : α} {P : α → Prop} : OTo (some x) P ↔ P x := by with_unfolding_all exact Iff.rfl
@[simp] theorem OTo_none {α : Type} {P : α → Prop} : OTo none P ↔ False := by with_unfolding_all exact Iff.rfl
@[simp] theorem To_ok {d : D} {f : Bool} : (ER.ok d f l g).To P ↔ P d f l g := by with_unfolding_all exact Iff.rfl
@[simp] theorem To_no : ER.no.To P ↔ False := by with_unfolding_all exact Iff.rfl
@[simp] theorem To_ex {c : Nat} {d : D} : (ER.ex c d l g).To P ↔ False := by with_unfolding_all exact Iff.rfl
@[simp] theorem PTo_sh {d : D} : (PR.sh d).To Q ↔ Q d false := by with_unfolding_all exact Iff.rfl
@[simp] theorem PTo_nw {d : D} : (PR.nw d).To Q ↔ Q d true := by with_unfolding_all exact Iff.rfl
@[simp] theorem PTo_no : PR.no.To Q ↔ False := by with_unfolding_all exact Iff.rfl
@[simp] theorem PTo_ite {c : Prop} [Decidable c] {o : PR} : (if c then o else .no).To Q ↔ c ∧ o.To Q := by
  by_cases h : c <;> simp [h]
@[simp] theorem PTo_bl {o : Option Bool} : (PR.bl o).To Q ↔ OTo o fun b => Q (.bl b) false := by cases o <;> with_unfolding_all exact Iff.rfl
@[simp] theorem STo_nx : (SR.nx l g).To N R B C ↔ N l g := by with_unfolding_all exact Iff.rfl
@[simp] theorem STo_rt {d : D} {f : Bool} : (SR.rt d f g).To N R B C ↔ R d f g := by with_unfolding_all exact Iff.rfl
@[simp] theorem STo_bk : (SR.bk l g).To N R B C ↔ B l g := by with_unfolding_all exact Iff.rfl
@[simp] theorem STo_ct : (SR.ct l g).To N R B C ↔ C l g := by with_unfolding_all exact Iff.rfl
@[simp] theorem STo_no : SR.no.To N R B C ↔ False := by with_unfolding_all exact Iff.rfl
@[simp] theorem To_bind {r : ER} {k : D → Bool → Lc → Gs → ER} : (r.bind k).To P ↔ r.To fun d f l g => (k d f l g).To P := by cases r <;> with_unfolding_all exact Iff.rfl
@[simp] theorem To_sBind {r : ER} {k : D → Bool → Lc → Gs → SR} : (sBind r k).To N R B C ↔ r.To fun d f l g => (k d f l g).To N R B C := by cases r <;> with_unfolding_all exact Iff.rfl
@[simp] theorem To_lift {o : PR} : (lift o l g).To P ↔ o.To fun d f => P d f l g := by cases o <;> with_unfolding_all exact Iff.rfl
@[simp] theorem To_ite {c : Prop} [Decidable c] {r : ER} : (if c then r else .no).To P ↔ c ∧ r.To P := by by_cases h : c <;> simp [h]
@[simp] theorem To_iteP {c : Prop} [Decidable c] {r r' : ER} : (if c then r else r').To P ↔ (if c then r.To P else r'.To P) := by by_cases h : c <;> simp [h]
@[simp] theorem STo_ite {c : Prop} [Decidable c] {r : SR} : (if c then r else .no).To N R B C ↔ c ∧ r.To N R B C := by by_cases h : c <;> simp [h]
@[simp] theorem STo_iteP {c : Prop} [Decidable c] {r r' : SR} : (if c then r else r').To N R B C ↔ (if c then r.To N R B C else r'.To N R B C) := by by_cases h : c <;> simp [h]
@[simp] theorem onB_bl {α : Type} {b : Bool} {t f n : α} : onB (.bl b) t f n = if b = true then t else f := by cases b <;> rfl
@[simp] theorem onBl_bl {α : Type} {b : Bool} {t : Bool → α} {n : α} : onBl (.bl b) t n = t b := rfl
/-! expressions -/
@[simp] theorem To_cC {d : D} : (cC d l g).To P ↔ P d false l g := by with_unfolding_all exact Iff.rfl
/-- reading a name: an own thing becomes shared -/
def rdV (l : Lc) (i : Nat) (k : D → Lc → Prop) : Prop := match l[i]? with
  | some (some (.val d)) => k d l
  | some (some (.own d)) => k d (l.set i (some (.val d)))
  | _ => False
@[simp] theorem To_cVar {i : Nat} : (cVar i l g).To P ↔ rdV l i fun d l => P d false l g := by
  unfold cVar rdV
  cases l[i]? with
  | none => with_unfolding_all exact Iff.rfl
  | some o => cases o with
    | none => with_unfolding_all exact Iff.rfl
    | some x => cases x <;> with_unfolding_all exact Iff.rfl
@[simp] theorem To_cUev {f : D → PR} {m : Sm} : (cU f (.ev m) l g).To P ↔ (m l g).To fun x _ l g => (f (x.cont g)).To fun d f => P d f l g := by
  simp only [cU, To_bind, To_lift]
@[simp] theorem To_cUpk {f : D → PR} {i : Nat} : (cU f (.pk i) l g).To P ↔ OTo (slotD l i) fun x => (f (x.cont g)).To fun d f => P d f l g := by
  simp only [cU]
  cases slotD l i <;> simp only [To_lift, OTo_some, OTo_none, To_no]
@[simp] theorem To_c2ee {f : D → D → PR} {a b : Sm} : (c2 f (.ev a) (.ev b) l g).To P ↔ (a l g).To fun x _ l g => (b l g).To fun y _ l g => (f (x.cont g) (y.cont g)).To fun d f => P d f l g := by
  simp only [c2, To_bind, To_lift]
@[simp] theorem To_c2pe {f : D → D → PR} {i : Nat} {b : Sm} : (c2 f (.pk i) (.ev b) l g).To P ↔ OTo (slotD l i) fun _ => (b l g).To fun y _ l g => OTo (slotD l i) fun x => (f (x.cont g) (y.cont g)).To fun d f => P d f l g := by
  simp only [c2]
  cases h : slotD l i with
  | none => with_unfolding_all exact Iff.rfl
  | some x =>
    simp only [OTo_some, To_bind]
    refine iff_of_eq (congrArg _ ?_)
    funext y _ l g
    cases slotD l i <;> simp only [To_lift, OTo_some, OTo_none, To_no]
@[simp] theorem To_c2ep {f : D → D → PR} {j : Nat} {a : Sm} : (c2 f (.ev a) (.pk j) l g).To P ↔ (a l g).To fun x _ l g => OTo (slotD l j) fun y => (f (x.cont g) (y.cont g)).To fun d f => P d f l g := by
  simp only [c2, To_bind]
  refine iff_of_eq (congrArg _ ?_)
  funext y _ l g
  cases slotD l j <;> simp only [To_lift, OTo_some, OTo_none, To_no]
@[simp] theorem To_c2pp {f : D → D → PR} {i j : Nat} : (c2 f (.pk i) (.pk j) l g).To P ↔ OTo (slotD l i) fun x => OTo (slotD l j) fun y => (f (x.cont g) (y.cont g)).To fun d f => P d f l g := by
  simp only [c2]
  cases slotD l i <;> cases slotD l j <;> simp only [To_lift, OTo_some, OTo_none, To_no]
@[simp] theorem To_cAnd {a b : Sm} : (cAnd a b l g).To P ↔ (a l g).To fun x _ l g => onB x ((b l g).To P) (P (.bl false) false l g) False := by
  unfold cAnd
  rw [To_bind]
  refine iff_of_eq (congrArg _ ?_)
  funext x _ l g
  cases x <;> simp [onB]
  split <;> simp
@[simp] theorem To_cOr {a b : Sm} : (cOr a b l g).To P ↔ (a l g).To fun x _ l g => onB x (P (.bl true) false l g) ((b l g).To P) False := by
  unfold cOr
  rw [To_bind]
  refine iff_of_eq (congrArg _ ?_)
  funext x _ l g
  cases x <;> simp [onB]
  split <;> simp
@[simp] theorem To_cNot {a : Sm} : (cNot a l g).To P ↔ (a l g).To fun x _ l g => onBl x (fun b => P (.bl (!b)) false l g) False := by
  unfold cNot
  rw [To_bind]
  refine iff_of_eq (congrArg _ ?_)
  funext x _ l g
  cases x <;> simp [onBl]
@[simp] theorem To_cIf {c a b : Sm} : (cIf c a b l g).To P ↔ (c l g).To fun x _ l g => onB x ((a l g).To P) ((b l g).To P) False := by
  unfold cIf
  rw [To_bind]
  refine iff_of_eq (congrArg _ ?_)
  funext x _ l g
  cases x <;> simp [onB]
  split <;> simp
@[simp] theorem To_cArgs0 {k : List D → Sm} : (cArgs [] k l g).To P ↔ (k [] l g).To P := by with_unfolding_all exact Iff.rfl
@[simp] theorem To_cArgs {m : Sm} {ms : List Sm} {k : List D → Sm} : (cArgs (m :: ms) k l g).To P ↔ (m l g).To fun x _ l g => (cArgs ms (fun xs => k (x :: xs)) l g).To P := by
  show ((m l g).bind _).To P ↔ _
  rw [To_bind]
@[simp] theorem To_cTup {ms : List Sm} : (cTup ms l g).To P ↔ (cArgs ms (fun ds l g => if ds.length ≤ sizeLine then .ok (.tup ds) false l g else .no) l g).To P := by with_unfolding_all exact Iff.rfl
@[simp] theorem To_cLst {ms : List Sm} : (cLst ms l g).To P ↔ (cArgs ms (fun ds l g => if ds.length ≤ sizeLine then .ok (.lst ds) true l g else .no) l g).To P := by with_unfolding_all exact Iff.rfl
@[simp] theorem To_cBox {m : Sm} : (cBox m l g).To P ↔ (m l g).To fun d f l g => f = true ∧ P (.ref g.length) false l (g ++ [.box d]) := by
  unfold cBox; simp only [To_bind, To_ite, To_ok]
@[simp] theorem To_cCall {F : Fn} {dfl : List D} {ms : List Sm} : (cCall F dfl ms l g).To P ↔ (cArgs ms (fun ds l g => (F (ds ++ dfl) g).bind fun d f _ g' => .ok d f l g') l g).To P := by with_unfolding_all exact Iff.rfl
@[simp] theorem To_cOpt0 {k : Option Int → Sm} : (cOpt none k l g).To P ↔ (k none l g).To P := by with_unfolding_all exact Iff.rfl
/-- an int -/
def onI (d : D) (k : Int → Prop) : Prop := match d with
  | .int i => k i
  | _ => False
@[simp] theorem onI_int {i : Int} {k : Int → Prop} : onI (.int i) k ↔ k i := by with_unfolding_all exact Iff.rfl
@[simp] theorem To_cOpt1 {m : Sm} {k : Option Int → Sm} : (cOpt (some m) k l g).To P ↔ (m l g).To fun x _ l g => onI x fun i => (k (some i) l g).To P := by
  unfold cOpt; rw [To_bind]
  refine iff_of_eq (congrArg _ ?_)
  funext x _ l g
  cases x <;> simp [onI]
@[simp] theorem To_cSlev {m : Sm} {lo hi : Option Sm} : (cSl (.ev m) lo hi l g).To P ↔ (m l g).To fun x _ l g => (cOpt lo (fun a => cOpt hi fun b l g => lift (dSl (x.cont g) a b) l g) l g).To P := by
  unfold cSl; rw [To_bind]
@[simp] theorem To_cSlpk {i : Nat} {lo hi : Option Sm} : (cSl (.pk i) lo hi l g).To P ↔ OTo (slotD l i) fun _ => (cOpt lo (fun a => cOpt hi fun b l g => match slotD l i with
      | some x => lift (dSl (x.cont g) a b) l g
      | none => .no) l g).To P := by
  simp only [cSl]
  cases slotD l i <;> with_unfolding_all exact Iff.rfl
@[simp] theorem To_slotM {o : Option D} {k : D → ER} : (ER.To (match o with | some x => k x | none => .no) P) ↔ OTo o fun x => (k x).To P := by cases o <;> with_unfolding_all exact Iff.rfl
@[simp] theorem To_prK {p : PR} {k : D → Sm} : (prK p k l g).To P ↔ p.To fun d _ => (k d l g).To P := by cases p <;> with_unfolding_all exact Iff.rfl
@[simp] theorem To_cChain {f f' : D → D → PR} {a b c : Sm} : (cChain f f' a b c l g).To P ↔ (a l g).To fun x _ l g => (b l g).To fun y _ l g => (f (x.cont g) (y.cont g)).To fun r _ => onB r ((c l g).To fun z _ l g => (f' (y.cont g) (z.cont g)).To fun d f => P d f l g) (P (.bl false) false l g) False := by
  simp only [cChain, To_bind, To_prK]
  refine iff_of_eq (congrArg _ ?_); funext x _ l g
  refine congrArg _ ?_; funext y _ l g
  refine congrArg _ ?_; funext r _
  cases r <;> simp only [onB, To_no]
  split <;> simp only [To_no, To_ok, To_bind, To_lift]
/-- a text -/
def onS (d : D) (k : Str → Prop) : Prop := match d with
  | .str z => k z
  | _ => False
@[simp] theorem onS_str {i : Str} {k : Str → Prop} : onS (.str i) k ↔ k i := by with_unfolding_all exact Iff.rfl
@[simp] theorem To_cStr1 {f : Str → D → PR} {m : Sm} {b : Opd} : (cStr1 f m b l g).To P ↔ (m l g).To fun x _ l g => onS x fun z => (cU (f z) b l g).To P := by
  unfold cStr1; rw [To_bind]
  refine iff_of_eq (congrArg _ ?_)
  funext x _ l g
  cases x <;> simp [onS]
@[simp] theorem To_cPairs0 {k : List (D × D) → Sm} : (cPairs [] k l g).To P ↔ (k [] l g).To P := by with_unfolding_all exact Iff.rfl
@[simp] theorem To_cPairs {mk mv : Sm} {ms : List (Sm × Sm)} {k : List (D × D) → Sm} : (cPairs ((mk, mv) :: ms) k l g).To P ↔ (mk l g).To fun x _ l g => (mv l g).To fun y _ l g => (cPairs ms (fun ps => k ((x, y) :: ps)) l g).To P := by
  show ((mk l g).bind _).To P ↔ _
  simp only [To_bind]
@[simp] theorem To_cDct {ms : List (Sm × Sm)} : (cDct ms l g).To P ↔ (cPairs ms (fun ps l g => if keysOk ps = true ∧ ps.length ≤ 15 then .ok (mkD ps) true l g else .no) l g).To P := by with_unfolding_all exact Iff.rfl
/-! statements -/
@[simp] theorem To_cSq {a b : Sg} : (cSq a b l g).To N R B C ↔ (a l g).To (fun l g => (b l g).To N R B C) R B C := by
  unfold cSq; cases a l g <;> with_unfolding_all exact Iff.rfl
@[simp] theorem To_cNil : (cNil l g).To N R B C ↔ N l g := by with_unfolding_all exact Iff.rfl
@[simp] theorem To_cRet {m : Sm} : (cRet m l g).To N R B C ↔ (m l g).To fun d f _ g => R d f g := by unfold cRet; simp
def rtV (l : Lc) (i : Nat) (k : D → Bool → Prop) : Prop := match l[i]? with
  | some (some (.val d)) => k d false
  | some (some (.own d)) => k d true
  | _ => False
@[simp] theorem To_cRetV {i : Nat} : (cRetV i l g).To N R B C ↔ rtV l i fun d f => R d f g := by
  unfold cRetV rtV
  cases l[i]? with
  | none => with_unfolding_all exact Iff.rfl
  | some o => cases o with
    | none => with_unfolding_all exact Iff.rfl
    | some x => cases x <;> with_unfolding_all exact Iff.rfl
@[simp] theorem To_cRetN : (cRetN l g).To N R B C ↔ R .non false g := by with_unfolding_all exact Iff.rfl
@[simp] theorem To_cDrop {m : Sm} : (cDrop m l g).To N R B C ↔ (m l g).To fun _ _ l g => N l g := by unfold cDrop; simp
@[simp] theorem To_cBrk : (cBrk l g).To N R B C ↔ B l g := by with_unfolding_all exact Iff.rfl
@[simp] theorem To_cCnt : (cCnt l g).To N R B C ↔ C l g := by with_unfolding_all exact Iff.rfl
@[simp] theorem To_cSet {i : Nat} {m : Sm} : (cSet i m l g).To N R B C ↔ (m l g).To fun d f l g => N (l.set i (some (sv d f))) g := by unfold cSet; simp
@[simp] theorem To_cIfS {c : Sm} {a b : Sg} : (cIfS c a b l g).To N R B C ↔ (c l g).To fun x _ l g => onB x ((a l g).To N R B C) ((b l g).To N R B C) False := by
  unfold cIfS; rw [To_sBind]
  refine iff_of_eq (congrArg _ ?_)
  funext x _ l g
  cases x <;> simp [onB]
  split <;> simp
@[simp] theorem To_cStpk {v i : Sm} {j : Nat} : (cSt v (.pk j) i l g).To N R B C ↔ (v l g).To fun x _ l g => OTo (slotP l j) fun _ => (i l g).To fun y _ l g => (stFin (slotP l j) y x l g).To N R B C := by
  unfold cSt; rw [To_sBind]
  refine iff_of_eq (congrArg _ ?_)
  funext x _ l g
  cases slotP l j <;> simp
@[simp] theorem To_cStev {v i o : Sm} : (cSt v (.ev o) i l g).To N R B C ↔ (v l g).To fun x _ l g => (o l g).To fun r _ l g => (i l g).To fun y _ l g => (stFin (refP r) y x l g).To N R B C := by
  unfold cSt; simp
@[simp] theorem To_stFin {pl : Pl} {y x : D} : (stFin (some pl) y x l g).To N R B C ↔ OTo (getP l g pl) fun d => OTo (putIx d y x) fun d' => N (setPl d' l pl) (setPg d' g pl) := by
  simp only [stFin]
  cases h : getP l g pl with
  | none => simp
  | some d =>
    simp only [OTo_some]
    cases putIx d y x <;> simp
@[simp] theorem To_muFin {pl : Pl} {f : Mu} {xs : List D} : (muFin f (some pl) xs l g).To P ↔ OTo (getP l g pl) fun d => OTo (f d xs) fun p => P p.2 false (setPl p.1 l pl) (setPg p.1 g pl) := by
  simp only [muFin]
  cases h : getP l g pl with
  | none => simp
  | some d =>
    simp only [OTo_some]
    cases f d xs <;> simp
@[simp] theorem To_cMupk {k : D → Bool} {f : Mu} {j : Nat} {ms : List Sm} : (cMu k f (.pk j) ms l g).To P ↔ isK k l g (slotP l j) = true ∧ (cArgs ms (fun xs l g => muFin f (slotP l j) xs l g) l g).To P := by
  unfold cMu; simp
@[simp] theorem To_cMuev {k : D → Bool} {f : Mu} {o : Sm} {ms : List Sm} : (cMu k f (.ev o) ms l g).To P ↔ (o l g).To fun r _ l g => isK k l g (refP r) = true ∧ (cArgs ms (fun xs l g => muFin f (refP r) xs l g) l g).To P := by
  unfold cMu; simp only [To_bind, To_ite]
@[simp] theorem To_cAsg {t : Tg} {m : Sm} : (cAsg t m l g).To N R B C ↔ (m l g).To fun d _ l g => OTo (t.put d l g) fun l => N l g := by
  unfold cAsg; rw [To_sBind]
  refine iff_of_eq (congrArg _ ?_)
  funext x _ l g
  cases t.put x l g <;> simp
def vlD (l : Lc) (i : Nat) : Option D := match l[i]? with
  | some (some (.val d)) => some d
  | _ => none
theorem To_cAug {i : Nat} {f : D → D → PR} {m : Sm} (hf : ∀ x y d, f x y ≠ .nw d) : (cAug i f m l g).To N R B C ↔ OTo (vlD l i) fun x => (m l g).To fun y _ l g => (f x y).To fun d _ => N (l.set i (some (.val d))) g := by
  unfold cAug vlD
  cases l[i]? with
  | none => with_unfolding_all exact Iff.rfl
  | some o => cases o with
    | none => with_unfolding_all exact Iff.rfl
    | some x => cases x with
      | own d => with_unfolding_all exact Iff.rfl
      | val x =>
        simp only [OTo_some]
        rw [To_sBind]
        refine iff_of_eq (congrArg _ ?_)
        funext y _ l g
        cases h : f x y with
        | nw d => exact absurd h (hf _ _ _)
        | _ => simp
theorem dAddI_nw (x y d : D) : dAddI x y ≠ .nw d := by unfold dAddI; split <;> simp
theorem dSubI_nw (x y d : D) : dSubI x y ≠ .nw d := by unfold dSubI; split <;> simp
@[simp] theorem To_cAugA {i : Nat} {m : Sm} : (cAug i dAddI m l g).To N R B C ↔ OTo (vlD l i) fun x => (m l g).To fun y _ l g => (dAddI x y).To fun d _ => N (l.set i (some (.val d))) g := To_cAug dAddI_nw
@[simp] theorem To_cAugS {i : Nat} {m : Sm} : (cAug i dSubI m l g).To N R B C ↔ OTo (vlD l i) fun x => (m l g).To fun y _ l g => (dSubI x y).To fun d _ => N (l.set i (some (.val d))) g := To_cAug dSubI_nw
@[simp] theorem To_cFor {it : Im} {t : Tg} {b : Sg} : (cFor it t b l g).To N R B C ↔ (it l g).To fun ds gd l g => (forL gd ds t b ds l g).To N R B C := by
  unfold cFor; cases it l g <;> with_unfolding_all exact Iff.rfl
@[simp] theorem To_iPlain {m : Sm} {K : List D → Gd → Lc → Gs → Prop} : (iPlain m l g).To K ↔ (m l g).To fun d _ l g => OTo (itemsOf d g) fun p => K p.1 p.2 l g := by
  unfold iPlain
  cases m l g with
  | ok d f l g =>
    simp only [To_ok]
    cases itemsOf d g <;> with_unfolding_all exact Iff.rfl
  | _ => with_unfolding_all exact Iff.rfl
@[simp] theorem To_irBind {r : ER} {k : D → Bool → Lc → Gs → IR} {K : List D → Gd → Lc → Gs → Prop} : (irBind r k).To K ↔ r.To fun d f l g => (k d f l g).To K := by cases r <;> with_unfolding_all exact Iff.rfl
@[simp] theorem ITo_ok {ds : List D} {gd : Gd} {K : List D → Gd → Lc → Gs → Prop} : (IR.ok ds gd l g).To K ↔ K ds gd l g := by with_unfolding_all exact Iff.rfl
@[simp] theorem ITo_no {K : List D → Gd → Lc → Gs → Prop} : IR.no.To K ↔ False := by with_unfolding_all exact Iff.rfl
@[simp] theorem ITo_ite {c : Prop} [Decidable c] {r : IR} {K : List D → Gd → Lc → Gs → Prop} : (if c then r else .no).To K ↔ c ∧ r.To K := by by_cases h : c <;> simp [h]
@[simp] theorem To_iRange1 {m : Sm} {K : List D → Gd → Lc → Gs → Prop} : (iRange1 m l g).To K ↔ (m l g).To fun x _ l g => onI x fun j => rgOk 0 j = true ∧ K (rgD 0 j) none l g := by
  unfold iRange1; rw [To_irBind]
  refine iff_of_eq (congrArg _ ?_)
  funext x _ l g
  cases x <;> simp [onI, rg1]
@[simp] theorem To_iRange2 {a b : Sm} {K : List D → Gd → Lc → Gs → Prop} : (iRange2 a b l g).To K ↔ (a l g).To fun x _ l g => (b l g).To fun y _ l g => onI x fun i => onI y fun j => rgOk i j = true ∧ K (rgD i j) none l g := by
  unfold iRange2; simp only [To_irBind]
  refine iff_of_eq (congrArg _ ?_)
  funext x _ l g
  refine congrArg _ ?_
  funext y _ l g
  cases x <;> cases y <;> simp [onI, rg2]
@[simp] theorem To_cLc {it : Im} {t : Tg} {own : List Nat} {cond : Option Sm} {elt : Sm} : (cLc it t own cond elt l g).To P ↔ (it l g).To fun ds gd l1 g1 => (compL gd ds t own cond elt ds [] (wipeL l1 own) g1).To fun d f l2 g2 => P d f (restL l1 l2 own) g2 := by
  unfold cLc
  cases it l g with
  | ok ds gd l1 g1 => simp only [To_bind, To_ok, ITo_ok]
  | no => with_unfolding_all exact Iff.rfl
@[simp] theorem To_runD {n np : Nat} {b : Sg} {ds : List D} : (runD n np b ds g).To P ↔ ds.length = np ∧ (b (loc0 n ds) g).To (fun _ g => P .non false [] g) (fun d f g => P d f [] g) (fun _ _ => False) (fun _ _ => False) := by
  unfold runD
  by_cases h : ds.length = np
  · rw [if_pos h]
    cases hb : b (loc0 n ds) g <;> simp [h, srER, SR.To]
  · simp [h]
theorem ER.To.imp {r : ER} {P' : D → Bool → Lc → Gs → Prop} (h : r.To P) (hp : ∀ d f l g, P d f l g → P' d f l g) : r.To P' := by
  cases r with
  | ok d f l g => with_unfolding_all exact hp _ _ _ _ h
  | _ => with_unfolding_all exact (show False from h).elim
theorem ER.To.eq {r : ER} (h : r.To P) : ∃ d f l g, r = .ok d f l g ∧ P d f l g := by
  cases r with
  | ok d f l g => with_unfolding_all exact ⟨_, _, _, _, rfl, h⟩
  | _ => with_unfolding_all exact (show False from h).elim
theorem SR.To.imp {r : SR} {N' B' C' : Lc → Gs → Prop} {R' : D → Bool → Gs → Prop} (h : r.To N R B C) (hn : ∀ l g, N l g → N' l g) (hr : ∀ d f g, R d f g → R' d f g) (hb : ∀ l g, B l g → B' l g) (hc : ∀ l g, C l g → C' l g) : r.To N' R' B' C' := by
  cases r with
  | nx l g => with_unfolding_all exact hn _ _ h
  | rt d f g => with_unfolding_all exact hr _ _ _ h
  | bk l g => with_unfolding_all exact hb _ _ h
  | ct l g => with_unfolding_all exact hc _ _ h
  | _ => with_unfolding_all exact (show False from h).elim
theorem forL_cons {ds0 ds : List D} {d : D} {t : Tg} {b : Sg} : forL none ds0 t b (d :: ds) l g = match t.put d l g with
    | some l => turn (b l g) (forL none ds0 t b ds)
    | none => .no := rfl
theorem compL_cons {ds0 ds acc : List D} {d : D} {t : Tg} {own : List Nat} {cond : Option Sm} {elt : Sm} : compL none ds0 t own cond elt (d :: ds) acc l g = match t.put d l g with
    | some l => (match cond with
      | none => (elt l g).bind fun y _ l g => if acc.length < sizeLine then compL none ds0 t own cond elt ds (acc ++ [y]) (wipeL l own) g else .no
      | some c => (c l g).bind fun x _ l g => onB x ((elt l g).bind fun y _ l g => if acc.length < sizeLine then compL none ds0 t own cond elt ds (acc ++ [y]) (wipeL l own) g else .no) (compL none ds0 t own cond elt ds acc (wipeL l own) g) .no)
    | none => .no := rfl
/-- THE RULE of a for that walks what isn't a box: I (what is left) l g -/
theorem forL_rule {ds0 ds : List D} {t : Tg} {b : Sg} (I : List D → Lc → Gs → Prop) (h0 : I ds l g)
    (step : ∀ d r l g, I (d :: r) l g → OTo (t.put d l g) fun l => (b l g).To (fun l g => I r l g) R N (fun l g => I r l g)) (fin : ∀ l g, I [] l g → N l g) : (forL none ds0 t b ds l g).To N R B C := by
  induction ds generalizing l g with
  | nil => with_unfolding_all exact fin _ _ h0
  | cons d r ih =>
    have h := step d r l g h0
    rw [forL_cons]
    cases hp : t.put d l g with
    | none => rw [hp] at h; with_unfolding_all exact (show False from h).elim
    | some l1 =>
      rw [hp] at h
      have h : (b l1 g).To (fun l g => I r l g) R N (fun l g => I r l g) := h
      show SR.To (turn (b l1 g) _) N R B C
      cases hb : b l1 g with
      | nx l2 g2 => rw [hb] at h; with_unfolding_all exact ih h
      | ct l2 g2 => rw [hb] at h; with_unfolding_all exact ih h
      | bk l2 g2 => rw [hb] at h; with_unfolding_all exact h
      | rt d f g2 => rw [hb] at h; with_unfolding_all exact h
      | ex c d l g => rw [hb] at h; with_unfolding_all exact (show False from h).elim
      | no => rw [hb] at h; with_unfolding_all exact (show False from h).elim
/-- the rule of a comprehension: I (what is left) (what was made) l g -/
theorem compL_rule {ds0 ds acc : List D} {t : Tg} {own : List Nat} {elt : Sm} (I : List D → List D → Lc → Gs → Prop) (h0 : I ds acc l g)
    (step : ∀ d r acc l g, I (d :: r) acc l g → OTo (t.put d l g) fun l => (elt l g).To fun y _ l g => acc.length < sizeLine ∧ I r (acc ++ [y]) (wipeL l own) g) (fin : ∀ acc l g, I [] acc l g → P (.lst acc) true l g) :
    (compL none ds0 t own none elt ds acc l g).To P := by
  induction ds generalizing acc l g with
  | nil => with_unfolding_all exact fin _ _ _ h0
  | cons d r ih =>
    have h := step d r acc l g h0
    rw [compL_cons]
    cases hp : t.put d l g with
    | none => rw [hp] at h; with_unfolding_all exact (show False from h).elim
    | some l1 =>
      rw [hp] at h
      have h : (elt l1 g).To fun y _ l g => acc.length < sizeLine ∧ I r (acc ++ [y]) (wipeL l own) g := h
      simp only [hp, To_bind]
      refine h.imp fun y _ l g ⟨h1, h2⟩ => ?_
      rw [if_pos h1]
      with_unfolding_all exact ih h2
theorem compL_ruleC {ds0 ds acc : List D} {t : Tg} {own : List Nat} {c elt : Sm} (I : List D → List D → Lc → Gs → Prop) (h0 : I ds acc l g)
    (step : ∀ d r acc l g, I (d :: r) acc l g → OTo (t.put d l g) fun l => (c l g).To fun x _ l g => onB x ((elt l g).To fun y _ l g => acc.length < sizeLine ∧ I r (acc ++ [y]) (wipeL l own) g) (I r acc (wipeL l own) g) False)
    (fin : ∀ acc l g, I [] acc l g → P (.lst acc) true l g) :
    (compL none ds0 t own (some c) elt ds acc l g).To P := by
  induction ds generalizing acc l g with
  | nil => with_unfolding_all exact fin _ _ _ h0
  | cons d r ih =>
    have h := step d r acc l g h0
    rw [compL_cons]
    cases hp : t.put d l g with
    | none => rw [hp] at h; with_unfolding_all exact (show False from h).elim
    | some l1 =>
      rw [hp] at h
      have h : (c l1 g).To _ := h
      simp only [hp, To_bind]
      refine h.imp fun x _ l g h => ?_
      cases x with
      | bl k =>
        cases k with
        | true =>
          have h : (elt l g).To fun y _ l g => acc.length < sizeLine ∧ I r (acc ++ [y]) (wipeL l own) g := h
          simp only [onB, To_bind]
          refine h.imp fun y _ l g ⟨h1, h2⟩ => ?_
          rw [if_pos h1]
          with_unfolding_all exact ih h2
        | false => with_unfolding_all exact ih h
      | _ => with_unfolding_all exact (show False from h).elim
end
/-! ### the pieces at given data -/
section
variable {l : Lc} {g : Gs} {i : Nat}
@[simp] theorem slotD_eq : slotD l i = match l[i]? with
  | some (some (.val d)) => some d
  | some (some (.own d)) => some d
  | _ => none := rfl
@[simp] theorem rdV_eq {k : D → Lc → Prop} : rdV l i k = match l[i]? with
  | some (some (.val d)) => k d l
  | some (some (.own d)) => k d (l.set i (some (.val d)))
  | _ => False := rfl
@[simp] theorem rtV_eq {k : D → Bool → Prop} : rtV l i k = match l[i]? with
  | some (some (.val d)) => k d false
  | some (some (.own d)) => k d true
  | _ => False := rfl
@[simp] theorem vlD_eq : vlD l i = match l[i]? with
  | some (some (.val d)) => some d
  | _ => none := rfl
@[simp] theorem slotP_eq : slotP l i = match l[i]? with
  | some (some (.own _)) => some (.sl i)
  | some (some (.val (.ref n))) => some (.bx n)
  | _ => none := rfl
@[simp] theorem refP_ref {n : Nat} : refP (.ref n) = some (.bx n) := rfl
@[simp] theorem getP_sl : getP l g (.sl i) = ownD l[i]? := rfl
@[simp] theorem getP_bx : getP l g (.bx i) = boxD g[i]? := rfl
@[simp] theorem setPl_sl {d : D} : setPl d l (.sl i) = l.set i (some (.own d)) := rfl
@[simp] theorem setPl_bx {d : D} : setPl d l (.bx i) = l := rfl
@[simp] theorem setPg_sl {d : D} : setPg d g (.sl i) = g := rfl
@[simp] theorem setPg_bx {d : D} : setPg d g (.bx i) = g.set i (.box d) := rfl
@[simp] theorem ownD_own {d : D} : ownD (some (some (.own d))) = some d := rfl
@[simp] theorem boxD_box {d : D} : boxD (some (.box d)) = some d := rfl
@[simp] theorem put_nm {d : D} : Tg.put (.nm i) d l g = some (l.set i (some (.val d))) := rfl
@[simp] theorem put_tp_tup {is : List Nat} {ds : List D} : Tg.put (.tp is) (.tup ds) l g = if ds.length = is.length then some (setAll is ds l) else none := rfl
@[simp] theorem setAll_cons {is : List Nat} {d : D} {ds : List D} : setAll (i :: is) (d :: ds) l = setAll is ds (l.set i (some (.val d))) := rfl
@[simp] theorem setAll_nil {ds : List D} : setAll [] ds l = l := by cases ds <;> rfl
@[simp] theorem wipeL_nil : wipeL l [] = l := rfl
@[simp] theorem wipeL_cons {v : Nat} {vs : List Nat} : wipeL l (v :: vs) = (wipeL l vs).set v none := rfl
@[simp] theorem restL_nil {l2 : Lc} : restL l l2 [] = l2 := rfl
@[simp] theorem restL_cons {l2 : Lc} {v : Nat} {vs : List Nat} : restL l l2 (v :: vs) = (restL l l2 vs).set v (l[v]?.getD none) := rfl
@[simp] theorem sv_true {d : D} : sv d true = .own d := rfl
@[simp] theorem sv_false {d : D} : sv d false = .val d := rfl
@[simp] theorem loc0_eq {n : Nat} {ds : List D} : loc0 n ds = ds.map (fun d => some (.val d)) ++ List.replicate (n - ds.length) none := rfl
@[simp] theorem isK_some {k : D → Bool} {pl : Pl} : isK k l g (some pl) = match getP l g pl with
    | some d => k d
    | none => false := rfl
@[simp] theorem isLst_lst {ds : List D} : isLst (.lst ds) = true := rfl
@[simp] theorem cont_non : D.cont g .non = .non := rfl
@[simp] theorem cont_bl {b : Bool} : D.cont g (.bl b) = .bl b := rfl
@[simp] theorem cont_int {b : Int} : D.cont g (.int b) = .int b := rfl
@[simp] theorem cont_str {b : Str} : D.cont g (.str b) = .str b := rfl
@[simp] theorem cont_tup {b : List D} : D.cont g (.tup b) = .tup b := rfl
@[simp] theorem cont_lst {b : List D} : D.cont g (.lst b) = .lst b := rfl
@[simp] theorem cont_dct {b : List (D × D)} : D.cont g (.dct b) = .dct b := rfl
@[simp] theorem cont_set {b : List D} : D.cont g (.set b) = .set b := rfl
@[simp] theorem cont_ref {n : Nat} : D.cont g (.ref n) = match g[n]? with
  | some (.box d) => d
  | _ => .ref n := rfl
@[simp] theorem items_tup {ds : List D} : itemsOf (.tup ds) g = some (ds, none) := rfl
@[simp] theorem items_lst {ds : List D} : itemsOf (.lst ds) g = some (ds, none) := rfl
@[simp] theorem items_str {z : Str} : itemsOf (.str z) g = some (signs z, none) := rfl
end
section
variable {a b : Int} {x y : Str} {ds es : List D}
@[simp] theorem dAdd_ii : dAdd (.int a) (.int b) = .sh (.int (a + b)) := rfl
@[simp] theorem dAdd_ss : dAdd (.str x) (.str y) = if x.length + y.length ≤ sizeLine then .sh (.str (x ++ y)) else .no := rfl
@[simp] theorem dAdd_tt : dAdd (.tup ds) (.tup es) = if ds.length + es.length ≤ sizeLine then .sh (.tup (ds ++ es)) else .no := rfl
@[simp] theorem dAdd_ll : dAdd (.lst ds) (.lst es) = if ds.length + es.length ≤ sizeLine then .nw (.lst (ds ++ es)) else .no := rfl
@[simp] theorem dSub_ii : dSub (.int a) (.int b) = .sh (.int (a - b)) := rfl
@[simp] theorem dMul_ii : dMul3 (.int a) (.int b) = if fitsMul a b then .sh (.int (a * b)) else .no := rfl
@[simp] theorem dMul_si : dMul3 (.str x) (.int b) = if b ≤ 1000 ∧ -1000 ≤ b ∧ x.length ≤ 1000 then .sh (.str (mulS x b)) else .no := rfl
theorem dMul_t {ds : List D} {b : Int} (h0 : ds ≠ []) (h1 : 1 ≤ b) (h2 : b ≤ 1000) (h3 : ds.length ≤ 1000) : dMul3 (.tup ds) (.int b) = .sh (.tup (List.replicate b.toNat ds).flatten) := by
  by_cases e : b = 1
  · subst e
    show PR.sh (.tup ds) = _
    simp
  · have : dMul3 (.tup ds) (.int b) = if ds ≠ [] ∧ 2 ≤ b ∧ b ≤ 1000 ∧ ds.length ≤ 1000 then .sh (.tup (List.replicate b.toNat ds).flatten) else .no := by
      unfold dMul3
      split <;> rename_i h1 <;> first | (cases h1; done) | skip
      all_goals simp_all
    rw [this, if_pos ⟨h0, by omega, h2, h3⟩]
@[simp] theorem dFdiv_ii : dFdiv (.int a) (.int b) = if 0 < b ∧ b < 1073741824 then .sh (.int (a / b)) else .no := rfl
@[simp] theorem dMod_ii : dMod (.int a) (.int b) = if 0 < b then .sh (.int (a % b)) else .no := rfl
@[simp] theorem dPow_ii : dPow (.int a) (.int b) = if 0 ≤ b ∧ b ≤ 1000000 ∧ a.natAbs < 2 ^ 64 then .sh (.int (a ^ b.toNat)) else .no := rfl
@[simp] theorem dAddI_ii : dAddI (.int a) (.int b) = .sh (.int (a + b)) := rfl
@[simp] theorem dSubI_ii : dSubI (.int a) (.int b) = .sh (.int (a - b)) := rfl
@[simp] theorem dEq_ii : dEq (.int a) (.int b) = .sh (.bl (decide (a = b))) := rfl
@[simp] theorem dEq_ss : dEq (.str x) (.str y) = .sh (.bl (decide (x = y))) := rfl
@[simp] theorem dEq_sn : dEq (.str x) .non = .sh (.bl false) := rfl
@[simp] theorem dNe_ii : dNe (.int a) (.int b) = .sh (.bl (!decide (a = b))) := rfl
@[simp] theorem dNe_ss : dNe (.str x) (.str y) = .sh (.bl (!decide (x = y))) := rfl
@[simp] theorem dLt_ii : dLt (.int a) (.int b) = .sh (.bl (decide (a < b))) := rfl
@[simp] theorem dLt_ss : dLt (.str x) (.str y) = .sh (.bl (decide (x.cps.toList < y.cps.toList))) := rfl
@[simp] theorem dLe_ii : dLe (.int a) (.int b) = .sh (.bl (decide (a ≤ b))) := rfl
@[simp] theorem dGt_ii : dGt (.int a) (.int b) = .sh (.bl (decide (b < a))) := rfl
@[simp] theorem dGe_ii : dGe (.int a) (.int b) = .sh (.bl (decide (b ≤ a))) := rfl
@[simp] theorem dIs_bb {p q : Bool} : dIs (.bl p) (.bl q) = .sh (.bl (decide (p = q))) := rfl
@[simp] theorem dNis_bb {p q : Bool} : dNis (.bl p) (.bl q) = .sh (.bl (!decide (p = q))) := rfl
@[simp] theorem dLen_s : dLen (.str x) = if x.length ≤ sizeLine then .sh (.int x.length) else .no := rfl
@[simp] theorem dLen_t : dLen (.tup ds) = .sh (.int ds.length) := rfl
@[simp] theorem dLen_l : dLen (.lst ds) = .sh (.int ds.length) := rfl
@[simp] theorem dLen_d {ps : List (D × D)} : dLen (.dct ps) = .sh (.int ps.length) := rfl
@[simp] theorem dMax2_ii : dMax2A (.int a) (.int b) = .sh (.int (if b > a then b else a)) := rfl
@[simp] theorem dMin2_ii : dMin2A (.int a) (.int b) = .sh (.int (if b < a then b else a)) := rfl
@[simp] theorem dInt_b {k : Bool} : dInt (.bl k) = .sh (.int (if k then 1 else 0)) := rfl
@[simp] theorem dInt_i : dInt (.int a) = .sh (.int a) := rfl
@[simp] theorem dTruth_b {k : Bool} : dTruth (.bl k) = .sh (.bl k) := rfl
@[simp] theorem dTruth_i : dTruth (.int a) = .sh (.bl (a != 0)) := rfl
@[simp] theorem dTruth_t : dTruth (.tup ds) = .sh (.bl (!ds.isEmpty)) := rfl
@[simp] theorem dTruth_l : dTruth (.lst ds) = .sh (.bl (!ds.isEmpty)) := rfl
@[simp] theorem dTruth_n : dTruth .non = .sh (.bl false) := rfl
@[simp] theorem dTuple_l : dTuple (.lst ds) = .sh (.tup ds) := rfl
@[simp] theorem dTuple_t : dTuple (.tup ds) = .sh (.tup ds) := rfl
@[simp] theorem dList_l : dList (.lst ds) = .nw (.lst ds) := rfl
@[simp] theorem dList_t : dList (.tup ds) = .nw (.lst ds) := rfl
@[simp] theorem dAll_l : dAll (.lst ds) = .bl ((blsOf ds).map fun bs => bs.all id) := rfl
@[simp] theorem dAny_l : dAny (.lst ds) = .bl ((blsOf ds).map fun bs => bs.any id) := rfl
@[simp] theorem dIx_t {i : Int} : dIx (.tup ds) (.int i) = match atI ds i with | some d => .sh d | none => .no := rfl
@[simp] theorem dIx_l {i : Int} : dIx (.lst ds) (.int i) = match atI ds i with | some d => .sh d | none => .no := rfl
@[simp] theorem dIx_s {i : Int} : dIx (.str x) (.int i) = if x.length ≤ sizeLine then (match atI x.cps.toList i with | some c => .sh (.str ⟨#[c]⟩) | none => .no) else .no := rfl
@[simp] theorem PTo_at {o : Option D} {Q : D → Bool → Prop} : (PR.To (match o with | some d => .sh d | none => .no) Q) ↔ OTo o fun d => Q d false := by cases o <;> with_unfolding_all exact Iff.rfl
@[simp] theorem PTo_atS {o : Option Nat} {Q : D → Bool → Prop} : (PR.To (match o with | some c => .sh (.str ⟨#[c]⟩) | none => .no) Q) ↔ OTo o fun c => Q (.str ⟨#[c]⟩) false := by cases o <;> with_unfolding_all exact Iff.rfl
@[simp] theorem putIx_l {k : Int} {d : D} : putIx (.lst ds) (.int k) d = (ixN ds.length k).map fun j => .lst (ds.set j d) := rfl
@[simp] theorem muAppend_l {d : D} : muAppend (.lst ds) [d] = if ds.length < sizeLine then some (.lst (ds ++ [d]), .non) else none := rfl
theorem anyEq_nice {d : D} (h : d.nice = true) (h1 : D.niceL ds = true) (h2 : d.dep ≤ 64) (h3 : D.depL ds ≤ 63) : anyEq d ds = some (decide (d ∈ ds)) := by
  unfold anyEq
  rw [if_pos (by simp [h, h1, h2, h3])]
theorem eq_nice {d e : D} (h : d.nice = true) (h1 : e.nice = true) (h2 : d.dep ≤ 64) (h3 : e.dep ≤ 64) : eqGen d e = some (decide (d = e)) := by
  unfold eqGen
  rw [if_pos (by simp [h, h1, h2, h3])]
@[simp] theorem atI_lit {α : Type} {xs : List α} {n : Nat} : atI xs (no_index (@OfNat.ofNat Int n instOfNat)) = xs[(OfNat.ofNat n : Nat)]? := by
  show atI xs ((n : Nat) : Int) = xs[n]?
  cases h : xs[n]? with
  | some x => exact atI_nat h
  | none =>
    rw [List.getElem?_eq_none_iff] at h
    unfold atI ixN
    rw [if_pos (by omega), if_neg (by simp; omega)]
    rfl
@[simp] theorem ixN_lit {k n : Nat} : ixN k (no_index (@OfNat.ofNat Int n instOfNat)) = if n < k then some n else none := by
  show ixN k ((n : Nat) : Int) = _
  unfold ixN
  rw [if_pos (by omega)]
  simp
theorem atI_nat' {α : Type} {xs : List α} {j : Nat} {x : α} (h : xs[j]? = some x) : atI xs (j : Int) = some x := atI_nat h
theorem atI_in {α : Type} {xs : List α} {i : Int} (h0 : 0 ≤ i) (h1 : i < xs.length) : ∃ x, x ∈ xs ∧ atI xs i = some x := by
  obtain ⟨j, rfl⟩ := Int.eq_ofNat_of_zero_le h0
  have hj : j < xs.length := by omega
  exact ⟨xs[j], List.getElem_mem hj, atI_nat (List.getElem?_eq_getElem hj)⟩
theorem fits_l {a b : Int} (h : -(2 ^ 64) < a) (h2 : a < 2 ^ 64) : fitsMul a b = true := by
  unfold fitsMul; simp only [h, h2, decide_true, Bool.and_self, Bool.true_or]
theorem fits_r {a b : Int} (h : -(2 ^ 64) < b) (h2 : b < 2 ^ 64) : fitsMul a b = true := by
  unfold fitsMul; simp only [h, h2, decide_true, Bool.and_self, Bool.or_true]
end
end Y
namespace Y
variable [TabC]
open PySem L2

/-! ### steps, from the head on -/
section
variable {P : D → Bool → Lc → Gs → Prop} {N B C : Lc → Gs → Prop} {R : D → Bool → Gs → Prop} {l : Lc} {g : Gs} {Q : D → Bool → Prop}
theorem rdV_v {i : Nat} {d : D} {k : D → Lc → Prop} (h : l[i]? = some (some (.val d))) (p : k d l) : rdV l i k := by unfold rdV; rw [h]; exact p
theorem rdV_o {i : Nat} {d : D} {k : D → Lc → Prop} (h : l[i]? = some (some (.own d))) (p : k d (l.set i (some (.val d)))) : rdV l i k := by unfold rdV; rw [h]; exact p
theorem rtV_v {i : Nat} {d : D} {k : D → Bool → Prop} (h : l[i]? = some (some (.val d))) (p : k d false) : rtV l i k := by unfold rtV; rw [h]; exact p
theorem rtV_o {i : Nat} {d : D} {k : D → Bool → Prop} (h : l[i]? = some (some (.own d))) (p : k d true) : rtV l i k := by unfold rtV; rw [h]; exact p
theorem onB_dec {c : Prop} {h : Decidable c} {A B : Prop} (ha : c → A) (hb : ¬ c → B) : onB (.bl (decide c)) A B False := by
  by_cases hc : c
  · rw [decide_eq_true hc]; exact ha hc
  · rw [decide_eq_false hc]; exact hb hc
theorem onB_ndec {c : Prop} {h : Decidable c} {A B : Prop} (ha : ¬ c → A) (hb : c → B) : onB (.bl (!decide c)) A B False := by
  by_cases hc : c
  · rw [decide_eq_true hc]; exact hb hc
  · rw [decide_eq_false hc]; exact ha hc
theorem onB_b {b : Bool} {A B : Prop} (ha : b = true → A) (hb : b = false → B) : onB (.bl b) A B False := by
  cases b
  · exact hb rfl
  · exact ha rfl
theorem onB_t {A B : Prop} (ha : A) : onB (.bl true) A B False := ha
theorem onB_f {A B : Prop} (ha : B) : onB (.bl false) A B False := ha
theorem OTo_i {α : Type} {o : Option α} {x : α} {P : α → Prop} (h : o = some x) (p : P x) : OTo o P := by subst h; exact p
theorem PTo_s {o : PR} {d : D} (h : o = .sh d) (p : Q d false) : o.To Q := by subst h; exact PTo_sh.mpr p
theorem PTo_n {o : PR} {d : D} (h : o = .nw d) (p : Q d true) : o.To Q := by subst h; exact PTo_nw.mpr p
theorem PTo_c {o : PR} {c : Prop} {h : Decidable c} (p : c ∧ o.To Q) : (if c then o else .no).To Q := PTo_ite.mpr p
theorem PTo_ic {o o' : PR} {c : Prop} {h : Decidable c} (e : o = if c then o' else .no) (p : c ∧ o'.To Q) : o.To Q := by subst e; exact PTo_ite.mpr p
theorem onI_i {d : D} {i : Int} {k : Int → Prop} (h : d = .int i) (p : k i) : onI d k := by subst h; exact p
theorem onS_i {d : D} {i : Str} {k : Str → Prop} (h : d = .str i) (p : k i) : onS d k := by subst h; exact p
theorem To_iteA {c : Prop} {h : Decidable c} {r : ER} (p : c ∧ r.To P) : (if c then r else .no).To P := To_ite.mpr p
theorem STo_iteA {c : Prop} {h : Decidable c} {r : SR} (p : c ∧ r.To N R B C) : (if c then r else .no).To N R B C := STo_ite.mpr p
theorem To_iteY {c : Prop} {h : Decidable c} {r : ER} (hc : c) (p : r.To P) : (if c then r else .no).To P := To_ite.mpr ⟨hc, p⟩
theorem STo_iteY {c : Prop} {h : Decidable c} {r : SR} (hc : c) (p : r.To N R B C) : (if c then r else .no).To N R B C := STo_ite.mpr ⟨hc, p⟩
theorem PTo_iY {o o' : PR} {c : Prop} {h : Decidable c} (e : o = if c then o' else .no) (hc : c) (p : o'.To Q) : o.To Q := by subst e; exact PTo_ite.mpr ⟨hc, p⟩
theorem rg_and {k : Prop} {j : Int} (h0 : -1000000 ≤ j) (h1 : j ≤ 1000000) (h : k) : rgOk 0 j = true ∧ k := ⟨by unfold rgOk; simp only [Bool.and_eq_true, decide_eq_true_eq]; omega, h⟩
theorem onBl_b {d : D} {b : Bool} {k : Bool → Prop} (h : d = .bl b) (p : k b) : onBl d k False := by subst h; exact p
theorem onB_tt {d : D} {A B : Prop} (h : d = .bl true) (p : A) : onB d A B False := by subst h; exact p
theorem onB_ff {d : D} {A B : Prop} (h : d = .bl false) (p : B) : onB d A B False := by subst h; exact p
/-- what holds between two statements -/
theorem cutM {r : SR} (M : Lc → Gs → Prop) (h : r.To M R B C) (k : ∀ l g, M l g → N l g) : r.To N R B C := h.imp k (fun _ _ _ h => h) (fun _ _ h => h) fun _ _ h => h
theorem cont_bx {h : Nat} {d : D} (e : g[h]? = some (.box d)) : D.cont g (.ref h) = d := by simp [e]
theorem To_runDi {n np : Nat} {b : Sg} {ds : List D} (h : ds.length = np) (p : (b (loc0 n ds) g).To (fun _ g => P .non false [] g) (fun d f g => P d f [] g) (fun _ _ => False) (fun _ _ => False)) : (runD n np b ds g).To P := To_runD.mpr ⟨h, p⟩
theorem To_bindc {F : Fn} {ds : List D} (p : (F ds g).To fun d f _ g' => P d f l g') : ((F ds g).bind fun d f _ g' => ER.ok d f l g').To P := To_bind.mpr (p.imp fun _ _ _ _ h => To_ok.mpr h)
end
section
variable {P : D → Bool → Lc → Gs → Prop} {N B C : Lc → Gs → Prop} {R : D → Bool → Gs → Prop} {l : Lc} {g : Gs} {Q : D → Bool → Prop}
/-- a comprehension whose item is a plain function of the element -/
theorem compL_map {ds0 ds acc : List D} {t : Tg} {own : List Nat} {elt : Sm} (F : D → D) (h : ∀ d ∈ ds, OTo (t.put d l g) fun l1 => (elt l1 g).To fun y _ l2 g2 => y = F d ∧ wipeL l2 own = l ∧ g2 = g)
    (hl : acc.length + ds.length ≤ sizeLine) (fin : P (.lst (acc ++ ds.map F)) true l g) : (compL none ds0 t own none elt ds acc l g).To P := by
  induction ds generalizing acc with
  | nil =>
    have fin : P (.lst (acc ++ [])) true l g := fin
    rw [List.append_nil] at fin
    with_unfolding_all exact fin
  | cons d r ih =>
    have h1 := h d List.mem_cons_self
    rw [compL_cons]
    cases hp : t.put d l g with
    | none => rw [hp] at h1; exact h1.elim
    | some l1 =>
      rw [hp] at h1
      have h1 : (elt l1 g).To fun y _ l2 g2 => y = F d ∧ wipeL l2 own = l ∧ g2 = g := h1
      simp only [To_bind]
      refine h1.imp fun y _ l2 g2 ⟨e1, e2, e3⟩ => ?_
      subst e1 e3
      rw [e2, if_pos (by simp only [List.length_cons] at hl; omega)]
      refine ih (fun d hd => h d (List.mem_cons_of_mem _ hd)) (by simp only [List.length_cons, List.length_append, List.length_nil] at hl ⊢; omega) ?_
      simpa using fin
/-- the same with a test -/
theorem compL_filter {ds0 ds acc : List D} {t : Tg} {own : List Nat} {c elt : Sm} (p : D → Bool) (F : D → D) (h : ∀ d ∈ ds, OTo (t.put d l g) fun l1 => (c l1 g).To fun x _ l2 g2 => x = .bl (p d) ∧
      if p d = true then (elt l2 g2).To (fun y _ l3 g3 => y = F d ∧ wipeL l3 own = l ∧ g3 = g) else (wipeL l2 own = l ∧ g2 = g))
    (hl : acc.length + ds.length ≤ sizeLine) (fin : P (.lst (acc ++ (ds.filter p).map F)) true l g) : (compL none ds0 t own (some c) elt ds acc l g).To P := by
  induction ds generalizing acc with
  | nil =>
    have fin : P (.lst (acc ++ [])) true l g := fin
    rw [List.append_nil] at fin
    with_unfolding_all exact fin
  | cons d r ih =>
    have h1 := h d List.mem_cons_self
    rw [compL_cons]
    cases hp : t.put d l g with
    | none => rw [hp] at h1; exact h1.elim
    | some l1 =>
      rw [hp] at h1
      have h1 : (c l1 g).To _ := h1
      simp only [To_bind]
      refine h1.imp fun x _ l2 g2 ⟨e1, h2⟩ => ?_
      subst e1
      simp only [List.length_cons] at hl
      by_cases hd : p d = true
      · rw [if_pos hd] at h2
        rw [hd]
        simp only [onB, To_bind]
        refine h2.imp fun y _ l3 g3 ⟨e1, e2, e3⟩ => ?_
        subst e1 e3
        rw [e2, if_pos (by omega)]
        refine ih (fun d hd => h d (List.mem_cons_of_mem _ hd)) (by simp only [List.length_append, List.length_cons, List.length_nil]; omega) ?_
        simpa [hd] using fin
      · rw [if_neg hd] at h2
        have hd' : p d = false := by simpa using hd
        rw [hd']
        simp only [onB]
        rw [h2.1, h2.2]
        refine ih (fun d hd => h d (List.mem_cons_of_mem _ hd)) (by omega) ?_
        simpa [hd'] using fin
theorem blsOf_map {α : Type} (p : α → Bool) : ∀ ds : List α, blsOf (ds.map fun d => D.bl (p d)) = some (ds.map p)
  | [] => rfl
  | d :: ds => by simp [blsOf, blsOf_map p ds]
theorem dAll_map {α : Type} (p : α → Bool) (ds : List α) : dAll (.lst (ds.map fun d => D.bl (p d))) = .sh (.bl (ds.all p)) := by
  show PR.bl _ = _
  rw [blsOf_map]
  simp [PR.bl, Function.comp_def, List.all_map]
theorem dAny_map {α : Type} (p : α → Bool) (ds : List α) : dAny (.lst (ds.map fun d => D.bl (p d))) = .sh (.bl (ds.any p)) := by
  show PR.bl _ = _
  rw [blsOf_map]
  simp [PR.bl, Function.comp_def, List.any_map]
end
section
variable {g g' : Gs} {a b c : D} {r : List D}
theorem ix0t : dIx (D.cont g (.tup (a :: r))) (D.cont g' (.int 0)) = .sh a := by simp
theorem ix0l : dIx (D.cont g (.lst (a :: r))) (D.cont g' (.int 0)) = .sh a := by simp
theorem ix1t : dIx (D.cont g (.tup (a :: b :: r))) (D.cont g' (.int 1)) = .sh b := by simp
theorem ix1l : dIx (D.cont g (.lst (a :: b :: r))) (D.cont g' (.int 1)) = .sh b := by simp
theorem ix2t : dIx (D.cont g (.tup (a :: b :: c :: r))) (D.cont g' (.int 2)) = .sh c := by simp
end
section
variable {N B C : Lc → Gs → Prop} {R : D → Bool → Gs → Prop} {l : Lc} {g : Gs} {P : D → Bool → Lc → Gs → Prop}
theorem stFin_i {o : Option Pl} {pl : Pl} {y x d : D} (h : o = some pl) (h1 : getP l g pl = some d) (p : OTo (putIx d y x) fun d' => N (setPl d' l pl) (setPg d' g pl)) : (stFin o y x l g).To N R B C := by
  subst h
  rw [To_stFin, h1]
  exact p
theorem muFin_i {o : Option Pl} {pl : Pl} {f : Mu} {xs : List D} {d : D} (h : o = some pl) (h1 : getP l g pl = some d) (p : OTo (f d xs) fun p => P p.2 false (setPl p.1 l pl) (setPg p.1 g pl)) : (muFin f o xs l g).To P := by
  subst h
  rw [To_muFin, h1]
  exact p
theorem putIx_ok {ds : List D} {j : Int} {x : D} (h0 : 0 ≤ j) (h1 : j < ds.length) : putIx (.lst ds) (.int j) x = some (.lst (ds.set j.toNat x)) := by
  obtain ⟨k, rfl⟩ := Int.eq_ofNat_of_zero_le h0
  have : k < ds.length := by omega
  show (ixN ds.length k).map _ = _
  unfold ixN
  rw [if_pos (by omega), if_pos (by omega)]
  rfl
theorem ix_mem {xs : List D} {i : Int} (h0 : 0 ≤ i) (h1 : i < xs.length) : ∃ d, d ∈ xs ∧ dIx (.lst xs) (.int i) = .sh d := by
  obtain ⟨d, hd, e⟩ := atI_in h0 h1
  exact ⟨d, hd, by rw [dIx_l, e]⟩
theorem ix_memT {xs : List D} {i : Int} (h0 : 0 ≤ i) (h1 : i < xs.length) : ∃ d, d ∈ xs ∧ dIx (.tup xs) (.int i) = .sh d := by
  obtain ⟨d, hd, e⟩ := atI_in h0 h1
  exact ⟨d, hd, by rw [dIx_t, e]⟩
theorem mem_set {xs : List D} {k : Nat} {x y : D} (h : y ∈ xs.set k x) : y ∈ xs ∨ y = x := List.mem_or_eq_of_mem_set h
end
section
variable {l : Lc} {g : Gs} {P : D → Bool → Lc → Gs → Prop}
theorem To_cMupkY {k : D → Bool} {f : Mu} {j : Nat} {ms : List Sm} (h : isK k l g (slotP l j) = true) (p : (cArgs ms (fun xs l g => muFin f (slotP l j) xs l g) l g).To P) : (cMu k f (.pk j) ms l g).To P := To_cMupk.mpr ⟨h, p⟩
theorem muApp_ok {ds : List D} {d : D} (h : ds.length < sizeLine) : muAppend (.lst ds) [d] = some (.lst (ds ++ [d]), .non) := by rw [muAppend_l, if_pos h]
/-- a range's items -/
theorem rg_in {m : Int} : ∀ d ∈ rgD 0 m, ∃ k : Int, d = .int k ∧ 0 ≤ k ∧ k < m := by
  intro d hd
  obtain ⟨k, hk, rfl⟩ := List.mem_map.mp hd
  rw [List.mem_range] at hk
  exact ⟨_, rfl, by omega, by omega⟩
theorem rg_len {m : Int} : (rgD 0 m).length = m.toNat := by simp [rgD]
end
section
variable {P : D → Bool → Lc → Gs → Prop} {N B C : Lc → Gs → Prop} {R : D → Bool → Gs → Prop} {l : Lc} {g : Gs}
theorem To_cPar {i j : Nat} {ma mb : Sm} : (cPar i j ma mb l g).To N R B C ↔ (ma l g).To fun x _ l g => (mb l g).To fun y _ l g => N ((l.set i (some (.val x))).set j (some (.val y))) g := by
  unfold cPar; simp only [To_sBind, STo_nx]
theorem To_cDctT : (cDctT l g).To P ↔ P (.dcu []) true l g := To_ok
theorem To_cIndexev {o m : Sm} : (cIndex (.ev o) m l g).To P ↔ (o l g).To fun x _ l g => isF x = true ∧ (m l g).To fun y _ l g => (dIndex x y).To fun d f => P d f l g := by
  simp only [cIndex, To_bind, To_ite, To_lift]
def idxTo (i : Nat) (m : Sm) (P : D → Bool → Lc → Gs → Prop) (l : Lc) (g : Gs) : D → Prop
  | .lst _ => (m l g).To fun y _ l g => OTo (slotD l i) fun x => (dIndexL x y).To fun d f => P d f l g
  | x => isF x = true ∧ (m l g).To fun y _ l g => (dIndex x y).To fun d f => P d f l g
theorem To_cIndexpk {i : Nat} {m : Sm} : (cIndex (.pk i) m l g).To P ↔ OTo (slotD l i) (idxTo i m P l g) := by
  simp only [cIndex]
  cases slotD l i with
  | none => simp only [OTo_none, To_no]
  | some x =>
    simp only [OTo_some]
    cases x with
    | lst ds =>
      simp only [idxS, idxTo, To_bind]
      refine iff_of_eq (congrArg _ ?_)
      funext y f l g
      cases slotD l i <;> simp only [To_lift, OTo_some, OTo_none, To_no]
    | _ => simp only [idxS, idxTo, To_bind, To_ite, To_lift]
theorem idx_f {i : Nat} {m : Sm} {ds : List D} (h : (m l g).To fun y _ l g => (dIndex (.ftup ds) y).To fun d f => P d f l g) : idxTo i m P l g (.ftup ds) := ⟨rfl, h⟩
theorem idx_l {i : Nat} {m : Sm} {ds : List D} (h : (m l g).To fun y _ l g => OTo (slotD l i) fun x => (dIndexL x y).To fun d f => P d f l g) : idxTo i m P l g (.lst ds) := h
theorem isF_and {ds : List D} {k : Prop} (h : k) : isF (.ftup ds) = true ∧ k := ⟨rfl, h⟩
theorem shB_dec {c : Prop} {h : Decidable c} (hc : c) : (D.bl (decide c)) = .bl true := by rw [decide_eq_true hc]
end
section
variable {g : Gs} {ds es : List D} {ps : List (D × D)} {i : Int}
@[simp] theorem cont_dcu : D.cont g (.dcu ps) = .dcu ps := rfl
@[simp] theorem cont_ctup : D.cont g (.ctup ds) = .ctup ds := rfl
@[simp] theorem cont_ftup : D.cont g (.ftup ds) = .ftup ds := rfl
@[simp] theorem cont_clst : D.cont g (.clst ds) = .clst ds := rfl
@[simp] theorem items_dcu : itemsOf (.dcu ps) g = some (ps.map (·.1), none) := rfl
@[simp] theorem items_dct : itemsOf (.dct ps) g = some (ps.map (·.1), none) := rfl
@[simp] theorem items_ftup : itemsOf (.ftup ds) g = some (ds, none) := rfl
@[simp] theorem items_ctup : itemsOf (.ctup ds) g = some (ds, none) := rfl
@[simp] theorem items_clst : itemsOf (.clst ds) g = some (ds, none) := rfl
@[simp] theorem dLen_ft : dLen (.ftup ds) = .sh (.int ds.length) := rfl
@[simp] theorem dLen_ct : dLen (.ctup ds) = .sh (.int ds.length) := rfl
@[simp] theorem dLen_cl : dLen (.clst ds) = .sh (.int ds.length) := rfl
@[simp] theorem dLen_u : dLen (.dcu ps) = .sh (.int ps.length) := rfl
@[simp] theorem dIx_ft : dIx (.ftup ds) (.int i) = match atI ds i with | some d => .sh d | none => .no := rfl
theorem ix0f {a : D} {r : List D} {g g' : Gs} : dIx (D.cont g (.ftup (a :: r))) (D.cont g' (.int 0)) = .sh a := ix0t (g := g) (g' := g')
theorem ix1f {a b : D} {r : List D} {g g' : Gs} : dIx (D.cont g (.ftup (a :: b :: r))) (D.cont g' (.int 1)) = .sh b := ix1t (g := g) (g' := g')
@[simp] theorem dIx_ct : dIx (.ctup ds) (.int i) = match atI ds i with | some d => .sh d | none => .no := rfl
@[simp] theorem dIx_cl : dIx (.clst ds) (.int i) = match atI ds i with | some d => .sh d | none => .no := rfl
end
end Y
namespace Y
variable [TabC]
open PySem L2

/-- a def that answers r and leaves the boxes -/
def Gets (F : Fn) (ds : List D) (g : Gs) (r : D) (f : Bool) : Prop := ∀ K : D → Bool → Lc → Gs → Prop, (∀ l, K r f l g) → (F ds g).To K
theorem Gets.go {F : Fn} {ds : List D} {g : Gs} {r : D} {f : Bool} (h : Gets F ds g r f) {K : D → Bool → Lc → Gs → Prop} (k : ∀ l, K r f l g) : (F ds g).To K := h K k
theorem Gets.run {n np : Nat} {b : Sg} {ds : List D} {g : Gs} {r : D} {f : Bool} (h : ds.length = np) (p : ∀ K : D → Bool → Lc → Gs → Prop, (∀ l, K r f l g) → (b (loc0 n ds) g).To (fun _ g => K .non false [] g) (fun d f g => K d f [] g) (fun _ _ => False) (fun _ _ => False)) : Gets (runD n np b) ds g r f :=
  fun K k => To_runD.mpr ⟨h, p K k⟩
theorem To_cSetN {i : Nat} {m : Sm} {N B C : Lc → Gs → Prop} {R : D → Bool → Gs → Prop} {l : Lc} {g : Gs} (h : (m l g).To fun d f l g => N (l.set i (some (sv d f))) g) : (cSet i m l g).To N R B C := To_cSet.mpr h
/-- the locals, told anew -/
theorem STo_l {b : Sg} {l l' : Lc} {g : Gs} {N B C : Lc → Gs → Prop} {R : D → Bool → Gs → Prop} (e : l = l') (h : (b l' g).To N R B C) : (b l g).To N R B C := by subst e; exact h
theorem ETo_l {b : Sm} {l l' : Lc} {g : Gs} {P : D → Bool → Lc → Gs → Prop} (e : l = l') (h : (b l' g).To P) : (b l g).To P := by subst e; exact h
section
variable {P : D → Bool → Lc → Gs → Prop} {N B C : Lc → Gs → Prop} {R : D → Bool → Gs → Prop} {l : Lc} {g : Gs}
/-- a loop that writes these slots alone -/
theorem forL_fr0 {ds0 ds : List D} {t : Tg} {b : Sg} (J : List D → Gs → Prop) (h0 : l = l ∧ J ds g )
    (step : ∀ d r g , J (d :: r) g  → OTo (t.put d l g) fun l1 => (b l1 g).To (fun l2 g => l2 = l ∧ J r g ) R N (fun l2 g => l2 = l ∧ J r g ))
    (fin : ∀ g , J [] g  → N l g) : (forL none ds0 t b ds l g).To N R B C := by
  refine forL_rule (fun rest l' g' => l' = l ∧ J rest g' ) h0 ?_ ?_
  · rintro d r l' g' ⟨rfl, h⟩
    exact step d r g'  h
  · rintro l' g' ⟨rfl, h⟩
    exact fin g'  h
theorem compL_fr0 {ds0 ds acc : List D} {t : Tg} {own : List Nat} {elt : Sm} (J : List D → List D → Gs → Prop) (h0 : l = l ∧ J ds acc g )
    (step : ∀ d r acc g , J (d :: r) acc g  → OTo (t.put d l g) fun l1 => (elt l1 g).To fun y _ l2 g => acc.length < sizeLine ∧ wipeL l2 own = l ∧ J r (acc ++ [y]) g )
    (fin : ∀ acc g , J [] acc g  → P (.lst acc) true l g) : (compL none ds0 t own none elt ds acc l g).To P := by
  refine compL_rule (fun rest acc l' g' => l' = l ∧ J rest acc g' ) h0 ?_ ?_
  · rintro d r acc l' g' ⟨rfl, h⟩
    exact step d r acc g'  h
  · rintro acc l' g' ⟨rfl, h⟩
    exact fin acc g'  h
/-- a loop that writes these slots alone -/
theorem forL_fr1 (j0 : Nat) {ds0 ds : List D} {t : Tg} {b : Sg} (J : List D → Gs → Option SV → Prop) (h0 : ∃ x0, l = (l.set j0 x0) ∧ J ds g x0)
    (step : ∀ d r g (x0 : Option SV), J (d :: r) g x0 → OTo (t.put d (l.set j0 x0) g) fun l1 => (b l1 g).To (fun l2 g => ∃ x0, l2 = (l.set j0 x0) ∧ J r g x0) R N (fun l2 g => ∃ x0, l2 = (l.set j0 x0) ∧ J r g x0))
    (fin : ∀ g (x0 : Option SV), J [] g x0 → N (l.set j0 x0) g) : (forL none ds0 t b ds l g).To N R B C := by
  refine forL_rule (fun rest l' g' => ∃ x0, l' = (l.set j0 x0) ∧ J rest g' x0) h0 ?_ ?_
  · rintro d r l' g' ⟨x0, rfl, h⟩
    exact step d r g' x0 h
  · rintro l' g' ⟨x0, rfl, h⟩
    exact fin g' x0 h
theorem compL_fr1 (j0 : Nat) {ds0 ds acc : List D} {t : Tg} {own : List Nat} {elt : Sm} (J : List D → List D → Gs → Option SV → Prop) (h0 : ∃ x0, l = (l.set j0 x0) ∧ J ds acc g x0)
    (step : ∀ d r acc g (x0 : Option SV), J (d :: r) acc g x0 → OTo (t.put d (l.set j0 x0) g) fun l1 => (elt l1 g).To fun y _ l2 g => acc.length < sizeLine ∧ ∃ x0, wipeL l2 own = (l.set j0 x0) ∧ J r (acc ++ [y]) g x0)
    (fin : ∀ acc g (x0 : Option SV), J [] acc g x0 → P (.lst acc) true (l.set j0 x0) g) : (compL none ds0 t own none elt ds acc l g).To P := by
  refine compL_rule (fun rest acc l' g' => ∃ x0, l' = (l.set j0 x0) ∧ J rest acc g' x0) h0 ?_ ?_
  · rintro d r acc l' g' ⟨x0, rfl, h⟩
    exact step d r acc g' x0 h
  · rintro acc l' g' ⟨x0, rfl, h⟩
    exact fin acc g' x0 h
/-- a loop that writes these slots alone -/
theorem forL_fr2 (j0 j1 : Nat) {ds0 ds : List D} {t : Tg} {b : Sg} (J : List D → Gs → Option SV → Option SV → Prop) (h0 : ∃ x0 x1, l = ((l.set j0 x0).set j1 x1) ∧ J ds g x0 x1)
    (step : ∀ d r g (x0 : Option SV) (x1 : Option SV), J (d :: r) g x0 x1 → OTo (t.put d ((l.set j0 x0).set j1 x1) g) fun l1 => (b l1 g).To (fun l2 g => ∃ x0 x1, l2 = ((l.set j0 x0).set j1 x1) ∧ J r g x0 x1) R N (fun l2 g => ∃ x0 x1, l2 = ((l.set j0 x0).set j1 x1) ∧ J r g x0 x1))
    (fin : ∀ g (x0 : Option SV) (x1 : Option SV), J [] g x0 x1 → N ((l.set j0 x0).set j1 x1) g) : (forL none ds0 t b ds l g).To N R B C := by
  refine forL_rule (fun rest l' g' => ∃ x0 x1, l' = ((l.set j0 x0).set j1 x1) ∧ J rest g' x0 x1) h0 ?_ ?_
  · rintro d r l' g' ⟨x0, x1, rfl, h⟩
    exact step d r g' x0 x1 h
  · rintro l' g' ⟨x0, x1, rfl, h⟩
    exact fin g' x0 x1 h
theorem compL_fr2 (j0 j1 : Nat) {ds0 ds acc : List D} {t : Tg} {own : List Nat} {elt : Sm} (J : List D → List D → Gs → Option SV → Option SV → Prop) (h0 : ∃ x0 x1, l = ((l.set j0 x0).set j1 x1) ∧ J ds acc g x0 x1)
    (step : ∀ d r acc g (x0 : Option SV) (x1 : Option SV), J (d :: r) acc g x0 x1 → OTo (t.put d ((l.set j0 x0).set j1 x1) g) fun l1 => (elt l1 g).To fun y _ l2 g => acc.length < sizeLine ∧ ∃ x0 x1, wipeL l2 own = ((l.set j0 x0).set j1 x1) ∧ J r (acc ++ [y]) g x0 x1)
    (fin : ∀ acc g (x0 : Option SV) (x1 : Option SV), J [] acc g x0 x1 → P (.lst acc) true ((l.set j0 x0).set j1 x1) g) : (compL none ds0 t own none elt ds acc l g).To P := by
  refine compL_rule (fun rest acc l' g' => ∃ x0 x1, l' = ((l.set j0 x0).set j1 x1) ∧ J rest acc g' x0 x1) h0 ?_ ?_
  · rintro d r acc l' g' ⟨x0, x1, rfl, h⟩
    exact step d r acc g' x0 x1 h
  · rintro acc l' g' ⟨x0, x1, rfl, h⟩
    exact fin acc g' x0 x1 h
/-- a loop that writes these slots alone -/
theorem forL_fr3 (j0 j1 j2 : Nat) {ds0 ds : List D} {t : Tg} {b : Sg} (J : List D → Gs → Option SV → Option SV → Option SV → Prop) (h0 : ∃ x0 x1 x2, l = (((l.set j0 x0).set j1 x1).set j2 x2) ∧ J ds g x0 x1 x2)
    (step : ∀ d r g (x0 : Option SV) (x1 : Option SV) (x2 : Option SV), J (d :: r) g x0 x1 x2 → OTo (t.put d (((l.set j0 x0).set j1 x1).set j2 x2) g) fun l1 => (b l1 g).To (fun l2 g => ∃ x0 x1 x2, l2 = (((l.set j0 x0).set j1 x1).set j2 x2) ∧ J r g x0 x1 x2) R N (fun l2 g => ∃ x0 x1 x2, l2 = (((l.set j0 x0).set j1 x1).set j2 x2) ∧ J r g x0 x1 x2))
    (fin : ∀ g (x0 : Option SV) (x1 : Option SV) (x2 : Option SV), J [] g x0 x1 x2 → N (((l.set j0 x0).set j1 x1).set j2 x2) g) : (forL none ds0 t b ds l g).To N R B C := by
  refine forL_rule (fun rest l' g' => ∃ x0 x1 x2, l' = (((l.set j0 x0).set j1 x1).set j2 x2) ∧ J rest g' x0 x1 x2) h0 ?_ ?_
  · rintro d r l' g' ⟨x0, x1, x2, rfl, h⟩
    exact step d r g' x0 x1 x2 h
  · rintro l' g' ⟨x0, x1, x2, rfl, h⟩
    exact fin g' x0 x1 x2 h
theorem compL_fr3 (j0 j1 j2 : Nat) {ds0 ds acc : List D} {t : Tg} {own : List Nat} {elt : Sm} (J : List D → List D → Gs → Option SV → Option SV → Option SV → Prop) (h0 : ∃ x0 x1 x2, l = (((l.set j0 x0).set j1 x1).set j2 x2) ∧ J ds acc g x0 x1 x2)
    (step : ∀ d r acc g (x0 : Option SV) (x1 : Option SV) (x2 : Option SV), J (d :: r) acc g x0 x1 x2 → OTo (t.put d (((l.set j0 x0).set j1 x1).set j2 x2) g) fun l1 => (elt l1 g).To fun y _ l2 g => acc.length < sizeLine ∧ ∃ x0 x1 x2, wipeL l2 own = (((l.set j0 x0).set j1 x1).set j2 x2) ∧ J r (acc ++ [y]) g x0 x1 x2)
    (fin : ∀ acc g (x0 : Option SV) (x1 : Option SV) (x2 : Option SV), J [] acc g x0 x1 x2 → P (.lst acc) true (((l.set j0 x0).set j1 x1).set j2 x2) g) : (compL none ds0 t own none elt ds acc l g).To P := by
  refine compL_rule (fun rest acc l' g' => ∃ x0 x1 x2, l' = (((l.set j0 x0).set j1 x1).set j2 x2) ∧ J rest acc g' x0 x1 x2) h0 ?_ ?_
  · rintro d r acc l' g' ⟨x0, x1, x2, rfl, h⟩
    exact step d r acc g' x0 x1 x2 h
  · rintro acc l' g' ⟨x0, x1, x2, rfl, h⟩
    exact fin acc g' x0 x1 x2 h
/-- a loop that writes these slots alone -/
theorem forL_fr4 (j0 j1 j2 j3 : Nat) {ds0 ds : List D} {t : Tg} {b : Sg} (J : List D → Gs → Option SV → Option SV → Option SV → Option SV → Prop) (h0 : ∃ x0 x1 x2 x3, l = ((((l.set j0 x0).set j1 x1).set j2 x2).set j3 x3) ∧ J ds g x0 x1 x2 x3)
    (step : ∀ d r g (x0 : Option SV) (x1 : Option SV) (x2 : Option SV) (x3 : Option SV), J (d :: r) g x0 x1 x2 x3 → OTo (t.put d ((((l.set j0 x0).set j1 x1).set j2 x2).set j3 x3) g) fun l1 => (b l1 g).To (fun l2 g => ∃ x0 x1 x2 x3, l2 = ((((l.set j0 x0).set j1 x1).set j2 x2).set j3 x3) ∧ J r g x0 x1 x2 x3) R N (fun l2 g => ∃ x0 x1 x2 x3, l2 = ((((l.set j0 x0).set j1 x1).set j2 x2).set j3 x3) ∧ J r g x0 x1 x2 x3))
    (fin : ∀ g (x0 : Option SV) (x1 : Option SV) (x2 : Option SV) (x3 : Option SV), J [] g x0 x1 x2 x3 → N ((((l.set j0 x0).set j1 x1).set j2 x2).set j3 x3) g) : (forL none ds0 t b ds l g).To N R B C := by
  refine forL_rule (fun rest l' g' => ∃ x0 x1 x2 x3, l' = ((((l.set j0 x0).set j1 x1).set j2 x2).set j3 x3) ∧ J rest g' x0 x1 x2 x3) h0 ?_ ?_
  · rintro d r l' g' ⟨x0, x1, x2, x3, rfl, h⟩
    exact step d r g' x0 x1 x2 x3 h
  · rintro l' g' ⟨x0, x1, x2, x3, rfl, h⟩
    exact fin g' x0 x1 x2 x3 h
theorem compL_fr4 (j0 j1 j2 j3 : Nat) {ds0 ds acc : List D} {t : Tg} {own : List Nat} {elt : Sm} (J : List D → List D → Gs → Option SV → Option SV → Option SV → Option SV → Prop) (h0 : ∃ x0 x1 x2 x3, l = ((((l.set j0 x0).set j1 x1).set j2 x2).set j3 x3) ∧ J ds acc g x0 x1 x2 x3)
    (step : ∀ d r acc g (x0 : Option SV) (x1 : Option SV) (x2 : Option SV) (x3 : Option SV), J (d :: r) acc g x0 x1 x2 x3 → OTo (t.put d ((((l.set j0 x0).set j1 x1).set j2 x2).set j3 x3) g) fun l1 => (elt l1 g).To fun y _ l2 g => acc.length < sizeLine ∧ ∃ x0 x1 x2 x3, wipeL l2 own = ((((l.set j0 x0).set j1 x1).set j2 x2).set j3 x3) ∧ J r (acc ++ [y]) g x0 x1 x2 x3)
    (fin : ∀ acc g (x0 : Option SV) (x1 : Option SV) (x2 : Option SV) (x3 : Option SV), J [] acc g x0 x1 x2 x3 → P (.lst acc) true ((((l.set j0 x0).set j1 x1).set j2 x2).set j3 x3) g) : (compL none ds0 t own none elt ds acc l g).To P := by
  refine compL_rule (fun rest acc l' g' => ∃ x0 x1 x2 x3, l' = ((((l.set j0 x0).set j1 x1).set j2 x2).set j3 x3) ∧ J rest acc g' x0 x1 x2 x3) h0 ?_ ?_
  · rintro d r acc l' g' ⟨x0, x1, x2, x3, rfl, h⟩
    exact step d r acc g' x0 x1 x2 x3 h
  · rintro acc l' g' ⟨x0, x1, x2, x3, rfl, h⟩
    exact fin acc g' x0 x1 x2 x3 h
/-- a loop that writes these slots alone -/
theorem forL_fr5 (j0 j1 j2 j3 j4 : Nat) {ds0 ds : List D} {t : Tg} {b : Sg} (J : List D → Gs → Option SV → Option SV → Option SV → Option SV → Option SV → Prop) (h0 : ∃ x0 x1 x2 x3 x4, l = (((((l.set j0 x0).set j1 x1).set j2 x2).set j3 x3).set j4 x4) ∧ J ds g x0 x1 x2 x3 x4)
    (step : ∀ d r g (x0 : Option SV) (x1 : Option SV) (x2 : Option SV) (x3 : Option SV) (x4 : Option SV), J (d :: r) g x0 x1 x2 x3 x4 → OTo (t.put d (((((l.set j0 x0).set j1 x1).set j2 x2).set j3 x3).set j4 x4) g) fun l1 => (b l1 g).To (fun l2 g => ∃ x0 x1 x2 x3 x4, l2 = (((((l.set j0 x0).set j1 x1).set j2 x2).set j3 x3).set j4 x4) ∧ J r g x0 x1 x2 x3 x4) R N (fun l2 g => ∃ x0 x1 x2 x3 x4, l2 = (((((l.set j0 x0).set j1 x1).set j2 x2).set j3 x3).set j4 x4) ∧ J r g x0 x1 x2 x3 x4))
    (fin : ∀ g (x0 : Option SV) (x1 : Option SV) (x2 : Option SV) (x3 : Option SV) (x4 : Option SV), J [] g x0 x1 x2 x3 x4 → N (((((l.set j0 x0).set j1 x1).set j2 x2).set j3 x3).set j4 x4) g) : (forL none ds0 t b ds l g).To N R B C := by
  refine forL_rule (fun rest l' g' => ∃ x0 x1 x2 x3 x4, l' = (((((l.set j0 x0).set j1 x1).set j2 x2).set j3 x3).set j4 x4) ∧ J rest g' x0 x1 x2 x3 x4) h0 ?_ ?_
  · rintro d r l' g' ⟨x0, x1, x2, x3, x4, rfl, h⟩
    exact step d r g' x0 x1 x2 x3 x4 h
  · rintro l' g' ⟨x0, x1, x2, x3, x4, rfl, h⟩
    exact fin g' x0 x1 x2 x3 x4 h
theorem compL_fr5 (j0 j1 j2 j3 j4 : Nat) {ds0 ds acc : List D} {t : Tg} {own : List Nat} {elt : Sm} (J : List D → List D → Gs → Option SV → Option SV → Option SV → Option SV → Option SV → Prop) (h0 : ∃ x0 x1 x2 x3 x4, l = (((((l.set j0 x0).set j1 x1).set j2 x2).set j3 x3).set j4 x4) ∧ J ds acc g x0 x1 x2 x3 x4)
    (step : ∀ d r acc g (x0 : Option SV) (x1 : Option SV) (x2 : Option SV) (x3 : Option SV) (x4 : Option SV), J (d :: r) acc g x0 x1 x2 x3 x4 → OTo (t.put d (((((l.set j0 x0).set j1 x1).set j2 x2).set j3 x3).set j4 x4) g) fun l1 => (elt l1 g).To fun y _ l2 g => acc.length < sizeLine ∧ ∃ x0 x1 x2 x3 x4, wipeL l2 own = (((((l.set j0 x0).set j1 x1).set j2 x2).set j3 x3).set j4 x4) ∧ J r (acc ++ [y]) g x0 x1 x2 x3 x4)
    (fin : ∀ acc g (x0 : Option SV) (x1 : Option SV) (x2 : Option SV) (x3 : Option SV) (x4 : Option SV), J [] acc g x0 x1 x2 x3 x4 → P (.lst acc) true (((((l.set j0 x0).set j1 x1).set j2 x2).set j3 x3).set j4 x4) g) : (compL none ds0 t own none elt ds acc l g).To P := by
  refine compL_rule (fun rest acc l' g' => ∃ x0 x1 x2 x3 x4, l' = (((((l.set j0 x0).set j1 x1).set j2 x2).set j3 x3).set j4 x4) ∧ J rest acc g' x0 x1 x2 x3 x4) h0 ?_ ?_
  · rintro d r acc l' g' ⟨x0, x1, x2, x3, x4, rfl, h⟩
    exact step d r acc g' x0 x1 x2 x3 x4 h
  · rintro acc l' g' ⟨x0, x1, x2, x3, x4, rfl, h⟩
    exact fin acc g' x0 x1 x2 x3 x4 h
/-- a loop that writes these slots alone -/
theorem forL_fr6 (j0 j1 j2 j3 j4 j5 : Nat) {ds0 ds : List D} {t : Tg} {b : Sg} (J : List D → Gs → Option SV → Option SV → Option SV → Option SV → Option SV → Option SV → Prop) (h0 : ∃ x0 x1 x2 x3 x4 x5, l = ((((((l.set j0 x0).set j1 x1).set j2 x2).set j3 x3).set j4 x4).set j5 x5) ∧ J ds g x0 x1 x2 x3 x4 x5)
    (step : ∀ d r g (x0 : Option SV) (x1 : Option SV) (x2 : Option SV) (x3 : Option SV) (x4 : Option SV) (x5 : Option SV), J (d :: r) g x0 x1 x2 x3 x4 x5 → OTo (t.put d ((((((l.set j0 x0).set j1 x1).set j2 x2).set j3 x3).set j4 x4).set j5 x5) g) fun l1 => (b l1 g).To (fun l2 g => ∃ x0 x1 x2 x3 x4 x5, l2 = ((((((l.set j0 x0).set j1 x1).set j2 x2).set j3 x3).set j4 x4).set j5 x5) ∧ J r g x0 x1 x2 x3 x4 x5) R N (fun l2 g => ∃ x0 x1 x2 x3 x4 x5, l2 = ((((((l.set j0 x0).set j1 x1).set j2 x2).set j3 x3).set j4 x4).set j5 x5) ∧ J r g x0 x1 x2 x3 x4 x5))
    (fin : ∀ g (x0 : Option SV) (x1 : Option SV) (x2 : Option SV) (x3 : Option SV) (x4 : Option SV) (x5 : Option SV), J [] g x0 x1 x2 x3 x4 x5 → N ((((((l.set j0 x0).set j1 x1).set j2 x2).set j3 x3).set j4 x4).set j5 x5) g) : (forL none ds0 t b ds l g).To N R B C := by
  refine forL_rule (fun rest l' g' => ∃ x0 x1 x2 x3 x4 x5, l' = ((((((l.set j0 x0).set j1 x1).set j2 x2).set j3 x3).set j4 x4).set j5 x5) ∧ J rest g' x0 x1 x2 x3 x4 x5) h0 ?_ ?_
  · rintro d r l' g' ⟨x0, x1, x2, x3, x4, x5, rfl, h⟩
    exact step d r g' x0 x1 x2 x3 x4 x5 h
  · rintro l' g' ⟨x0, x1, x2, x3, x4, x5, rfl, h⟩
    exact fin g' x0 x1 x2 x3 x4 x5 h
theorem compL_fr6 (j0 j1 j2 j3 j4 j5 : Nat) {ds0 ds acc : List D} {t : Tg} {own : List Nat} {elt : Sm} (J : List D → List D → Gs → Option SV → Option SV → Option SV → Option SV → Option SV → Option SV → Prop) (h0 : ∃ x0 x1 x2 x3 x4 x5, l = ((((((l.set j0 x0).set j1 x1).set j2 x2).set j3 x3).set j4 x4).set j5 x5) ∧ J ds acc g x0 x1 x2 x3 x4 x5)
    (step : ∀ d r acc g (x0 : Option SV) (x1 : Option SV) (x2 : Option SV) (x3 : Option SV) (x4 : Option SV) (x5 : Option SV), J (d :: r) acc g x0 x1 x2 x3 x4 x5 → OTo (t.put d ((((((l.set j0 x0).set j1 x1).set j2 x2).set j3 x3).set j4 x4).set j5 x5) g) fun l1 => (elt l1 g).To fun y _ l2 g => acc.length < sizeLine ∧ ∃ x0 x1 x2 x3 x4 x5, wipeL l2 own = ((((((l.set j0 x0).set j1 x1).set j2 x2).set j3 x3).set j4 x4).set j5 x5) ∧ J r (acc ++ [y]) g x0 x1 x2 x3 x4 x5)
    (fin : ∀ acc g (x0 : Option SV) (x1 : Option SV) (x2 : Option SV) (x3 : Option SV) (x4 : Option SV) (x5 : Option SV), J [] acc g x0 x1 x2 x3 x4 x5 → P (.lst acc) true ((((((l.set j0 x0).set j1 x1).set j2 x2).set j3 x3).set j4 x4).set j5 x5) g) : (compL none ds0 t own none elt ds acc l g).To P := by
  refine compL_rule (fun rest acc l' g' => ∃ x0 x1 x2 x3 x4 x5, l' = ((((((l.set j0 x0).set j1 x1).set j2 x2).set j3 x3).set j4 x4).set j5 x5) ∧ J rest acc g' x0 x1 x2 x3 x4 x5) h0 ?_ ?_
  · rintro d r acc l' g' ⟨x0, x1, x2, x3, x4, x5, rfl, h⟩
    exact step d r acc g' x0 x1 x2 x3 x4 x5 h
  · rintro acc l' g' ⟨x0, x1, x2, x3, x4, x5, rfl, h⟩
    exact fin acc g' x0 x1 x2 x3 x4 x5 h
/-- a loop that writes these slots alone -/
theorem forL_fr7 (j0 j1 j2 j3 j4 j5 j6 : Nat) {ds0 ds : List D} {t : Tg} {b : Sg} (J : List D → Gs → Option SV → Option SV → Option SV → Option SV → Option SV → Option SV → Option SV → Prop) (h0 : ∃ x0 x1 x2 x3 x4 x5 x6, l = (((((((l.set j0 x0).set j1 x1).set j2 x2).set j3 x3).set j4 x4).set j5 x5).set j6 x6) ∧ J ds g x0 x1 x2 x3 x4 x5 x6)
    (step : ∀ d r g (x0 : Option SV) (x1 : Option SV) (x2 : Option SV) (x3 : Option SV) (x4 : Option SV) (x5 : Option SV) (x6 : Option SV), J (d :: r) g x0 x1 x2 x3 x4 x5 x6 → OTo (t.put d (((((((l.set j0 x0).set j1 x1).set j2 x2).set j3 x3).set j4 x4).set j5 x5).set j6 x6) g) fun l1 => (b l1 g).To (fun l2 g => ∃ x0 x1 x2 x3 x4 x5 x6, l2 = (((((((l.set j0 x0).set j1 x1).set j2 x2).set j3 x3).set j4 x4).set j5 x5).set j6 x6) ∧ J r g x0 x1 x2 x3 x4 x5 x6) R N (fun l2 g => ∃ x0 x1 x2 x3 x4 x5 x6, l2 = (((((((l.set j0 x0).set j1 x1).set j2 x2).set j3 x3).set j4 x4).set j5 x5).set j6 x6) ∧ J r g x0 x1 x2 x3 x4 x5 x6))
    (fin : ∀ g (x0 : Option SV) (x1 : Option SV) (x2 : Option SV) (x3 : Option SV) (x4 : Option SV) (x5 : Option SV) (x6 : Option SV), J [] g x0 x1 x2 x3 x4 x5 x6 → N (((((((l.set j0 x0).set j1 x1).set j2 x2).set j3 x3).set j4 x4).set j5 x5).set j6 x6) g) : (forL none ds0 t b ds l g).To N R B C := by
  refine forL_rule (fun rest l' g' => ∃ x0 x1 x2 x3 x4 x5 x6, l' = (((((((l.set j0 x0).set j1 x1).set j2 x2).set j3 x3).set j4 x4).set j5 x5).set j6 x6) ∧ J rest g' x0 x1 x2 x3 x4 x5 x6) h0 ?_ ?_
  · rintro d r l' g' ⟨x0, x1, x2, x3, x4, x5, x6, rfl, h⟩
    exact step d r g' x0 x1 x2 x3 x4 x5 x6 h
  · rintro l' g' ⟨x0, x1, x2, x3, x4, x5, x6, rfl, h⟩
    exact fin g' x0 x1 x2 x3 x4 x5 x6 h
theorem compL_fr7 (j0 j1 j2 j3 j4 j5 j6 : Nat) {ds0 ds acc : List D} {t : Tg} {own : List Nat} {elt : Sm} (J : List D → List D → Gs → Option SV → Option SV → Option SV → Option SV → Option SV → Option SV → Option SV → Prop) (h0 : ∃ x0 x1 x2 x3 x4 x5 x6, l = (((((((l.set j0 x0).set j1 x1).set j2 x2).set j3 x3).set j4 x4).set j5 x5).set j6 x6) ∧ J ds acc g x0 x1 x2 x3 x4 x5 x6)
    (step : ∀ d r acc g (x0 : Option SV) (x1 : Option SV) (x2 : Option SV) (x3 : Option SV) (x4 : Option SV) (x5 : Option SV) (x6 : Option SV), J (d :: r) acc g x0 x1 x2 x3 x4 x5 x6 → OTo (t.put d (((((((l.set j0 x0).set j1 x1).set j2 x2).set j3 x3).set j4 x4).set j5 x5).set j6 x6) g) fun l1 => (elt l1 g).To fun y _ l2 g => acc.length < sizeLine ∧ ∃ x0 x1 x2 x3 x4 x5 x6, wipeL l2 own = (((((((l.set j0 x0).set j1 x1).set j2 x2).set j3 x3).set j4 x4).set j5 x5).set j6 x6) ∧ J r (acc ++ [y]) g x0 x1 x2 x3 x4 x5 x6)
    (fin : ∀ acc g (x0 : Option SV) (x1 : Option SV) (x2 : Option SV) (x3 : Option SV) (x4 : Option SV) (x5 : Option SV) (x6 : Option SV), J [] acc g x0 x1 x2 x3 x4 x5 x6 → P (.lst acc) true (((((((l.set j0 x0).set j1 x1).set j2 x2).set j3 x3).set j4 x4).set j5 x5).set j6 x6) g) : (compL none ds0 t own none elt ds acc l g).To P := by
  refine compL_rule (fun rest acc l' g' => ∃ x0 x1 x2 x3 x4 x5 x6, l' = (((((((l.set j0 x0).set j1 x1).set j2 x2).set j3 x3).set j4 x4).set j5 x5).set j6 x6) ∧ J rest acc g' x0 x1 x2 x3 x4 x5 x6) h0 ?_ ?_
  · rintro d r acc l' g' ⟨x0, x1, x2, x3, x4, x5, x6, rfl, h⟩
    exact step d r acc g' x0 x1 x2 x3 x4 x5 x6 h
  · rintro acc l' g' ⟨x0, x1, x2, x3, x4, x5, x6, rfl, h⟩
    exact fin acc g' x0 x1 x2 x3 x4 x5 x6 h
/-- a loop that writes these slots alone -/
theorem forL_fr8 (j0 j1 j2 j3 j4 j5 j6 j7 : Nat) {ds0 ds : List D} {t : Tg} {b : Sg} (J : List D → Gs → Option SV → Option SV → Option SV → Option SV → Option SV → Option SV → Option SV → Option SV → Prop) (h0 : ∃ x0 x1 x2 x3 x4 x5 x6 x7, l = ((((((((l.set j0 x0).set j1 x1).set j2 x2).set j3 x3).set j4 x4).set j5 x5).set j6 x6).set j7 x7) ∧ J ds g x0 x1 x2 x3 x4 x5 x6 x7)
    (step : ∀ d r g (x0 : Option SV) (x1 : Option SV) (x2 : Option SV) (x3 : Option SV) (x4 : Option SV) (x5 : Option SV) (x6 : Option SV) (x7 : Option SV), J (d :: r) g x0 x1 x2 x3 x4 x5 x6 x7 → OTo (t.put d ((((((((l.set j0 x0).set j1 x1).set j2 x2).set j3 x3).set j4 x4).set j5 x5).set j6 x6).set j7 x7) g) fun l1 => (b l1 g).To (fun l2 g => ∃ x0 x1 x2 x3 x4 x5 x6 x7, l2 = ((((((((l.set j0 x0).set j1 x1).set j2 x2).set j3 x3).set j4 x4).set j5 x5).set j6 x6).set j7 x7) ∧ J r g x0 x1 x2 x3 x4 x5 x6 x7) R N (fun l2 g => ∃ x0 x1 x2 x3 x4 x5 x6 x7, l2 = ((((((((l.set j0 x0).set j1 x1).set j2 x2).set j3 x3).set j4 x4).set j5 x5).set j6 x6).set j7 x7) ∧ J r g x0 x1 x2 x3 x4 x5 x6 x7))
    (fin : ∀ g (x0 : Option SV) (x1 : Option SV) (x2 : Option SV) (x3 : Option SV) (x4 : Option SV) (x5 : Option SV) (x6 : Option SV) (x7 : Option SV), J [] g x0 x1 x2 x3 x4 x5 x6 x7 → N ((((((((l.set j0 x0).set j1 x1).set j2 x2).set j3 x3).set j4 x4).set j5 x5).set j6 x6).set j7 x7) g) : (forL none ds0 t b ds l g).To N R B C := by
  refine forL_rule (fun rest l' g' => ∃ x0 x1 x2 x3 x4 x5 x6 x7, l' = ((((((((l.set j0 x0).set j1 x1).set j2 x2).set j3 x3).set j4 x4).set j5 x5).set j6 x6).set j7 x7) ∧ J rest g' x0 x1 x2 x3 x4 x5 x6 x7) h0 ?_ ?_
  · rintro d r l' g' ⟨x0, x1, x2, x3, x4, x5, x6, x7, rfl, h⟩
    exact step d r g' x0 x1 x2 x3 x4 x5 x6 x7 h
  · rintro l' g' ⟨x0, x1, x2, x3, x4, x5, x6, x7, rfl, h⟩
    exact fin g' x0 x1 x2 x3 x4 x5 x6 x7 h
theorem compL_fr8 (j0 j1 j2 j3 j4 j5 j6 j7 : Nat) {ds0 ds acc : List D} {t : Tg} {own : List Nat} {elt : Sm} (J : List D → List D → Gs → Option SV → Option SV → Option SV → Option SV → Option SV → Option SV → Option SV → Option SV → Prop) (h0 : ∃ x0 x1 x2 x3 x4 x5 x6 x7, l = ((((((((l.set j0 x0).set j1 x1).set j2 x2).set j3 x3).set j4 x4).set j5 x5).set j6 x6).set j7 x7) ∧ J ds acc g x0 x1 x2 x3 x4 x5 x6 x7)
    (step : ∀ d r acc g (x0 : Option SV) (x1 : Option SV) (x2 : Option SV) (x3 : Option SV) (x4 : Option SV) (x5 : Option SV) (x6 : Option SV) (x7 : Option SV), J (d :: r) acc g x0 x1 x2 x3 x4 x5 x6 x7 → OTo (t.put d ((((((((l.set j0 x0).set j1 x1).set j2 x2).set j3 x3).set j4 x4).set j5 x5).set j6 x6).set j7 x7) g) fun l1 => (elt l1 g).To fun y _ l2 g => acc.length < sizeLine ∧ ∃ x0 x1 x2 x3 x4 x5 x6 x7, wipeL l2 own = ((((((((l.set j0 x0).set j1 x1).set j2 x2).set j3 x3).set j4 x4).set j5 x5).set j6 x6).set j7 x7) ∧ J r (acc ++ [y]) g x0 x1 x2 x3 x4 x5 x6 x7)
    (fin : ∀ acc g (x0 : Option SV) (x1 : Option SV) (x2 : Option SV) (x3 : Option SV) (x4 : Option SV) (x5 : Option SV) (x6 : Option SV) (x7 : Option SV), J [] acc g x0 x1 x2 x3 x4 x5 x6 x7 → P (.lst acc) true ((((((((l.set j0 x0).set j1 x1).set j2 x2).set j3 x3).set j4 x4).set j5 x5).set j6 x6).set j7 x7) g) : (compL none ds0 t own none elt ds acc l g).To P := by
  refine compL_rule (fun rest acc l' g' => ∃ x0 x1 x2 x3 x4 x5 x6 x7, l' = ((((((((l.set j0 x0).set j1 x1).set j2 x2).set j3 x3).set j4 x4).set j5 x5).set j6 x6).set j7 x7) ∧ J rest acc g' x0 x1 x2 x3 x4 x5 x6 x7) h0 ?_ ?_
  · rintro d r acc l' g' ⟨x0, x1, x2, x3, x4, x5, x6, x7, rfl, h⟩
    exact step d r acc g' x0 x1 x2 x3 x4 x5 x6 x7 h
  · rintro acc l' g' ⟨x0, x1, x2, x3, x4, x5, x6, x7, rfl, h⟩
    exact fin acc g' x0 x1 x2 x3 x4 x5 x6 x7 h
/-- a loop that writes these slots alone -/
theorem forL_fr9 (j0 j1 j2 j3 j4 j5 j6 j7 j8 : Nat) {ds0 ds : List D} {t : Tg} {b : Sg} (J : List D → Gs → Option SV → Option SV → Option SV → Option SV → Option SV → Option SV → Option SV → Option SV → Option SV → Prop) (h0 : ∃ x0 x1 x2 x3 x4 x5 x6 x7 x8, l = (((((((((l.set j0 x0).set j1 x1).set j2 x2).set j3 x3).set j4 x4).set j5 x5).set j6 x6).set j7 x7).set j8 x8) ∧ J ds g x0 x1 x2 x3 x4 x5 x6 x7 x8)
    (step : ∀ d r g (x0 : Option SV) (x1 : Option SV) (x2 : Option SV) (x3 : Option SV) (x4 : Option SV) (x5 : Option SV) (x6 : Option SV) (x7 : Option SV) (x8 : Option SV), J (d :: r) g x0 x1 x2 x3 x4 x5 x6 x7 x8 → OTo (t.put d (((((((((l.set j0 x0).set j1 x1).set j2 x2).set j3 x3).set j4 x4).set j5 x5).set j6 x6).set j7 x7).set j8 x8) g) fun l1 => (b l1 g).To (fun l2 g => ∃ x0 x1 x2 x3 x4 x5 x6 x7 x8, l2 = (((((((((l.set j0 x0).set j1 x1).set j2 x2).set j3 x3).set j4 x4).set j5 x5).set j6 x6).set j7 x7).set j8 x8) ∧ J r g x0 x1 x2 x3 x4 x5 x6 x7 x8) R N (fun l2 g => ∃ x0 x1 x2 x3 x4 x5 x6 x7 x8, l2 = (((((((((l.set j0 x0).set j1 x1).set j2 x2).set j3 x3).set j4 x4).set j5 x5).set j6 x6).set j7 x7).set j8 x8) ∧ J r g x0 x1 x2 x3 x4 x5 x6 x7 x8))
    (fin : ∀ g (x0 : Option SV) (x1 : Option SV) (x2 : Option SV) (x3 : Option SV) (x4 : Option SV) (x5 : Option SV) (x6 : Option SV) (x7 : Option SV) (x8 : Option SV), J [] g x0 x1 x2 x3 x4 x5 x6 x7 x8 → N (((((((((l.set j0 x0).set j1 x1).set j2 x2).set j3 x3).set j4 x4).set j5 x5).set j6 x6).set j7 x7).set j8 x8) g) : (forL none ds0 t b ds l g).To N R B C := by
  refine forL_rule (fun rest l' g' => ∃ x0 x1 x2 x3 x4 x5 x6 x7 x8, l' = (((((((((l.set j0 x0).set j1 x1).set j2 x2).set j3 x3).set j4 x4).set j5 x5).set j6 x6).set j7 x7).set j8 x8) ∧ J rest g' x0 x1 x2 x3 x4 x5 x6 x7 x8) h0 ?_ ?_
  · rintro d r l' g' ⟨x0, x1, x2, x3, x4, x5, x6, x7, x8, rfl, h⟩
    exact step d r g' x0 x1 x2 x3 x4 x5 x6 x7 x8 h
  · rintro l' g' ⟨x0, x1, x2, x3, x4, x5, x6, x7, x8, rfl, h⟩
    exact fin g' x0 x1 x2 x3 x4 x5 x6 x7 x8 h
theorem compL_fr9 (j0 j1 j2 j3 j4 j5 j6 j7 j8 : Nat) {ds0 ds acc : List D} {t : Tg} {own : List Nat} {elt : Sm} (J : List D → List D → Gs → Option SV → Option SV → Option SV → Option SV → Option SV → Option SV → Option SV → Option SV → Option SV → Prop) (h0 : ∃ x0 x1 x2 x3 x4 x5 x6 x7 x8, l = (((((((((l.set j0 x0).set j1 x1).set j2 x2).set j3 x3).set j4 x4).set j5 x5).set j6 x6).set j7 x7).set j8 x8) ∧ J ds acc g x0 x1 x2 x3 x4 x5 x6 x7 x8)
    (step : ∀ d r acc g (x0 : Option SV) (x1 : Option SV) (x2 : Option SV) (x3 : Option SV) (x4 : Option SV) (x5 : Option SV) (x6 : Option SV) (x7 : Option SV) (x8 : Option SV), J (d :: r) acc g x0 x1 x2 x3 x4 x5 x6 x7 x8 → OTo (t.put d (((((((((l.set j0 x0).set j1 x1).set j2 x2).set j3 x3).set j4 x4).set j5 x5).set j6 x6).set j7 x7).set j8 x8) g) fun l1 => (elt l1 g).To fun y _ l2 g => acc.length < sizeLine ∧ ∃ x0 x1 x2 x3 x4 x5 x6 x7 x8, wipeL l2 own = (((((((((l.set j0 x0).set j1 x1).set j2 x2).set j3 x3).set j4 x4).set j5 x5).set j6 x6).set j7 x7).set j8 x8) ∧ J r (acc ++ [y]) g x0 x1 x2 x3 x4 x5 x6 x7 x8)
    (fin : ∀ acc g (x0 : Option SV) (x1 : Option SV) (x2 : Option SV) (x3 : Option SV) (x4 : Option SV) (x5 : Option SV) (x6 : Option SV) (x7 : Option SV) (x8 : Option SV), J [] acc g x0 x1 x2 x3 x4 x5 x6 x7 x8 → P (.lst acc) true (((((((((l.set j0 x0).set j1 x1).set j2 x2).set j3 x3).set j4 x4).set j5 x5).set j6 x6).set j7 x7).set j8 x8) g) : (compL none ds0 t own none elt ds acc l g).To P := by
  refine compL_rule (fun rest acc l' g' => ∃ x0 x1 x2 x3 x4 x5 x6 x7 x8, l' = (((((((((l.set j0 x0).set j1 x1).set j2 x2).set j3 x3).set j4 x4).set j5 x5).set j6 x6).set j7 x7).set j8 x8) ∧ J rest acc g' x0 x1 x2 x3 x4 x5 x6 x7 x8) h0 ?_ ?_
  · rintro d r acc l' g' ⟨x0, x1, x2, x3, x4, x5, x6, x7, x8, rfl, h⟩
    exact step d r acc g' x0 x1 x2 x3 x4 x5 x6 x7 x8 h
  · rintro acc l' g' ⟨x0, x1, x2, x3, x4, x5, x6, x7, x8, rfl, h⟩
    exact fin acc g' x0 x1 x2 x3 x4 x5 x6 x7 x8 h
theorem To_iRange3 {a b c : Sm} {K : List D → Gd → Lc → Gs → Prop} : (iRange3 a b c l g).To K ↔ (a l g).To fun x _ l g => (b l g).To fun y _ l g => (c l g).To fun z _ l g => (rg3 x y z l g).To K := by
  unfold iRange3; simp only [To_irBind]
theorem rg3_down {i j : Int} {K : List D → Gd → Lc → Gs → Prop} (h : rgOk i j = true) (k : K (rg3D i (-1) (i - j).toNat) none l g) : (rg3 (.int i) (.int j) (.int (-1)) l g).To K := by
  show (if rgOk i j = true then _ else _ : IR).To K
  rw [if_pos h]; exact ITo_ok.mpr k
/-- n - 1 down to 0 -/
def dn : Nat → List D
  | 0 => []
  | n + 1 => .int (n : Nat) :: dn n
theorem rg3D_dn (n : Nat) : rg3D ((n : Int) - 1) (-1) n = dn n := by
  induction n with
  | zero => rfl
  | succ n ih =>
    unfold rg3D at ih ⊢
    rw [List.range_succ_eq_map, List.map_cons, List.map_map, dn]
    congr 1
    · congr 1; simp
    · rw [← ih]
      refine List.map_congr_left fun k _ => ?_
      show D.int _ = D.int _
      congr 1
      show ((n + 1 : Nat) : Int) - 1 + ((k + 1 : Nat) : Int) * -1 = _
      omega
end
theorem cutD_last {ds : List D} : cutD ds none (some (-1)) = ds.take (ds.length - 1) := by
  unfold cutD
  show (ds.drop 0).take (HT.sIx ds.length ds.length (some (-1)) - 0) = _
  rw [List.drop_zero]
  congr 1
  show (if (-1 : Int) < 0 then ((-1 : Int) + (ds.length : Int)).toNat else min (-1 : Int).toNat ds.length) - 0 = _
  rw [if_pos (by decide)]
  omega
section
variable {P : D → Bool → Lc → Gs → Prop} {l : Lc} {g : Gs}
theorem To_cOrT {a b : Sm} (h : (a l g).To fun x _ l g => (dTruth (x.cont g)).To fun t _ => onB t (P x false l g) ((b l g).To P) False) : (cOrT a b l g).To P := by
  unfold cOrT
  refine To_bind.mpr (h.imp fun x _ l1 g1 h => ?_)
  cases e : dTruth (x.cont g1) with
  | sh d =>
    rw [e] at h
    have h := PTo_sh.mp h
    cases d with
    | bl t => cases t with
      | true => exact To_ok.mpr h
      | false => exact h
    | _ => exact False.elim h
  | nw d =>
    exfalso
    unfold dTruth at e
    split at e <;> first | (cases e; done) | (split at e <;> cases e)
  | no => rw [e] at h; exact False.elim (PTo_no.mp h)
theorem To_cStr0 {f : Str → PR} {m : Sm} : (cStr0 f m l g).To P ↔ (m l g).To fun x _ l g => onS x fun z => (f z).To fun d f => P d f l g := by
  unfold cStr0; rw [To_bind]
  refine iff_of_eq (congrArg _ ?_)
  funext x _ l g
  cases x <;> simp [onS]
theorem To_getE {x y z : D} (h : OTo (dget x y) fun o => P (o.getD z) false l g) : (getE x y z l g).To P := by
  unfold getE
  cases e : dget x y with
  | none => rw [e] at h; exact h.elim
  | some o => rw [e] at h; cases o <;> exact To_ok.mpr h
theorem To_cGet2pk {i : Nat} {mk mz : Sm} {x : D} (h0 : slotD l i = some x) (h1 : isDc (x.cont g) = true) (h : (mk l g).To fun y _ l g => (mz l g).To fun z _ l g => OTo (slotD l i) fun x => OTo (dget (x.cont g) y) fun o => P (o.getD z) false l g) : (cGet2 (.pk i) mk mz l g).To P := by
  simp only [cGet2, h0]
  rw [if_pos h1]
  refine To_bind.mpr (h.imp fun y _ l1 g1 h => To_bind.mpr (h.imp fun z _ l2 g2 h => ?_))
  cases e : slotD l2 i with
  | none => rw [e] at h; exact h.elim
  | some x => rw [e] at h; exact To_getE h
theorem To_cGet2ev {o mk mz : Sm} (h : (o l g).To fun x _ l g => isDc (x.cont g) = true ∧ (mk l g).To fun y _ l g => (mz l g).To fun z _ l g => OTo (dget (x.cont g) y) fun o => P (o.getD z) false l g) : (cGet2 (.ev o) mk mz l g).To P := by
  simp only [cGet2]
  refine To_bind.mpr (h.imp fun x _ l1 g1 ⟨h1, h⟩ => ?_)
  rw [if_pos h1]
  exact To_bind.mpr (h.imp fun y _ l1 g1 h => To_bind.mpr (h.imp fun z _ l2 g2 h => To_getE h))
end
end Y
namespace Y
variable [TabC]
open PySem L2
/-- one step of a walk, found by the head -/
class Step (P : Prop) (Q : outParam Prop) : Prop where
  go : Q → P
section
variable {P : D → Bool → Lc → Gs → Prop} {N B C : Lc → Gs → Prop} {R : D → Bool → Gs → Prop} {l : Lc} {g : Gs}
instance st_cSq {a b : Sg} : Step ((cSq a b l g).To N R B C) ((a l g).To (fun l g => (b l g).To N R B C) R B C) := ⟨To_cSq.mpr⟩
instance st_cNil  : Step ((cNil l g).To N R B C) (N l g) := ⟨To_cNil.mpr⟩
instance st_cSet {i : Nat} {m : Sm} : Step ((cSet i m l g).To N R B C) ((m l g).To fun d f l g => N (l.set i (some (sv d f))) g) := ⟨To_cSet.mpr⟩
instance st_cC {d : D} : Step ((cC d l g).To P) (P d false l g) := ⟨To_cC.mpr⟩
instance st_cVar {i : Nat} : Step ((cVar i l g).To P) (rdV l i fun d l => P d false l g) := ⟨To_cVar.mpr⟩
instance st_c2pp {f : D → D → PR} {i j : Nat} : Step ((c2 f (.pk i) (.pk j) l g).To P) (OTo (slotD l i) fun x => OTo (slotD l j) fun y => (f (x.cont g) (y.cont g)).To fun d f => P d f l g) := ⟨To_c2pp.mpr⟩
instance st_c2pe {f : D → D → PR} {i : Nat} {b : Sm} : Step ((c2 f (.pk i) (.ev b) l g).To P) (OTo (slotD l i) fun _ => (b l g).To fun y _ l g => OTo (slotD l i) fun x => (f (x.cont g) (y.cont g)).To fun d f => P d f l g) := ⟨To_c2pe.mpr⟩
instance st_c2ep {f : D → D → PR} {j : Nat} {a : Sm} : Step ((c2 f (.ev a) (.pk j) l g).To P) ((a l g).To fun x _ l g => OTo (slotD l j) fun y => (f (x.cont g) (y.cont g)).To fun d f => P d f l g) := ⟨To_c2ep.mpr⟩
instance st_c2ee {f : D → D → PR} {a b : Sm} : Step ((c2 f (.ev a) (.ev b) l g).To P) ((a l g).To fun x _ l g => (b l g).To fun y _ l g => (f (x.cont g) (y.cont g)).To fun d f => P d f l g) := ⟨To_c2ee.mpr⟩
instance st_cUpk {f : D → PR} {i : Nat} : Step ((cU f (.pk i) l g).To P) (OTo (slotD l i) fun x => (f (x.cont g)).To fun d f => P d f l g) := ⟨To_cUpk.mpr⟩
instance st_cUev {f : D → PR} {m : Sm} : Step ((cU f (.ev m) l g).To P) ((m l g).To fun x _ l g => (f (x.cont g)).To fun d f => P d f l g) := ⟨To_cUev.mpr⟩
instance st_cRet {m : Sm} : Step ((cRet m l g).To N R B C) ((m l g).To fun d f _ g => R d f g) := ⟨To_cRet.mpr⟩
instance st_cRetV {i : Nat} : Step ((cRetV i l g).To N R B C) (rtV l i fun d f => R d f g) := ⟨To_cRetV.mpr⟩
instance st_cRetN  : Step ((cRetN l g).To N R B C) (R .non false g) := ⟨To_cRetN.mpr⟩
instance st_cArgs {m : Sm} {ms : List Sm} {k : List D → Sm} : Step ((cArgs (m :: ms) k l g).To P) ((m l g).To fun x _ l g => (cArgs ms (fun xs => k (x :: xs)) l g).To P) := ⟨To_cArgs.mpr⟩
instance st_cArgs0 {k : List D → Sm} : Step ((cArgs [] k l g).To P) ((k [] l g).To P) := ⟨To_cArgs0.mpr⟩
instance st_cCall {F : Fn} {dfl : List D} {ms : List Sm} : Step ((cCall F dfl ms l g).To P) ((cArgs ms (fun ds l g => (F (ds ++ dfl) g).bind fun d f _ g' => .ok d f l g') l g).To P) := ⟨To_cCall.mpr⟩
instance st_cLst {ms : List Sm} : Step ((cLst ms l g).To P) ((cArgs ms (fun ds l g => if ds.length ≤ sizeLine then .ok (.lst ds) true l g else .no) l g).To P) := ⟨To_cLst.mpr⟩
instance st_cTup {ms : List Sm} : Step ((cTup ms l g).To P) ((cArgs ms (fun ds l g => if ds.length ≤ sizeLine then .ok (.tup ds) false l g else .no) l g).To P) := ⟨To_cTup.mpr⟩
instance st_cAnd {a b : Sm} : Step ((cAnd a b l g).To P) ((a l g).To fun x _ l g => onB x ((b l g).To P) (P (.bl false) false l g) False) := ⟨To_cAnd.mpr⟩
instance st_cOr {a b : Sm} : Step ((cOr a b l g).To P) ((a l g).To fun x _ l g => onB x (P (.bl true) false l g) ((b l g).To P) False) := ⟨To_cOr.mpr⟩
instance st_cNot {a : Sm} : Step ((cNot a l g).To P) ((a l g).To fun x _ l g => onBl x (fun b => P (.bl (!b)) false l g) False) := ⟨To_cNot.mpr⟩
instance st_cIf {c a b : Sm} : Step ((cIf c a b l g).To P) ((c l g).To fun x _ l g => onB x ((a l g).To P) ((b l g).To P) False) := ⟨To_cIf.mpr⟩
instance st_cFor {it : Im} {t : Tg} {b : Sg} : Step ((cFor it t b l g).To N R B C) ((it l g).To fun ds gd l g => (forL gd ds t b ds l g).To N R B C) := ⟨To_cFor.mpr⟩
instance st_cLc {it : Im} {t : Tg} {own : List Nat} {cond : Option Sm} {elt : Sm} : Step ((cLc it t own cond elt l g).To P) ((it l g).To fun ds gd l1 g1 => (compL gd ds t own cond elt ds [] (wipeL l1 own) g1).To fun d f l2 g2 => P d f (restL l1 l2 own) g2) := ⟨To_cLc.mpr⟩
instance st_iPlain {m : Sm} {K : List D → Gd → Lc → Gs → Prop} : Step ((iPlain m l g).To K) ((m l g).To fun d _ l g => OTo (itemsOf d g) fun p => K p.1 p.2 l g) := ⟨To_iPlain.mpr⟩
instance st_iRange1 {m : Sm} {K : List D → Gd → Lc → Gs → Prop} : Step ((iRange1 m l g).To K) ((m l g).To fun x _ l g => onI x fun j => rgOk 0 j = true ∧ K (rgD 0 j) none l g) := ⟨To_iRange1.mpr⟩
instance st_iRange2 {a b : Sm} {K : List D → Gd → Lc → Gs → Prop} : Step ((iRange2 a b l g).To K) ((a l g).To fun x _ l g => (b l g).To fun y _ l g => onI x fun i => onI y fun j => rgOk i j = true ∧ K (rgD i j) none l g) := ⟨To_iRange2.mpr⟩
instance st_cDrop {m : Sm} : Step ((cDrop m l g).To N R B C) ((m l g).To fun _ _ l g => N l g) := ⟨To_cDrop.mpr⟩
instance st_cPar {i j : Nat} {ma mb : Sm} : Step ((cPar i j ma mb l g).To N R B C) ((ma l g).To fun x _ l g => (mb l g).To fun y _ l g => N ((l.set i (some (.val x))).set j (some (.val y))) g) := ⟨To_cPar.mpr⟩
instance st_cDctT  : Step ((cDctT l g).To P) (P (.dcu []) true l g) := ⟨To_cDctT.mpr⟩
instance st_cIndexpk {i : Nat} {m : Sm} : Step ((cIndex (.pk i) m l g).To P) (OTo (slotD l i) (idxTo i m P l g)) := ⟨To_cIndexpk.mpr⟩
instance st_idxf {i : Nat} {m : Sm} {ds : List D} : Step (idxTo i m P l g (.ftup ds)) ((m l g).To fun y _ l g => (dIndex (.ftup ds) y).To fun d f => P d f l g) := ⟨idx_f⟩
instance st_idxl {i : Nat} {m : Sm} {ds : List D} : Step (idxTo i m P l g (.lst ds)) ((m l g).To fun y _ l g => OTo (slotD l i) fun x => (dIndexL x y).To fun d f => P d f l g) := ⟨idx_l⟩
instance st_cIndexev {o m : Sm} : Step ((cIndex (.ev o) m l g).To P) ((o l g).To fun x _ l g => isF x = true ∧ (m l g).To fun y _ l g => (dIndex x y).To fun d f => P d f l g) := ⟨To_cIndexev.mpr⟩
instance st_cBrk  : Step ((cBrk l g).To N R B C) (B l g) := ⟨To_cBrk.mpr⟩
instance st_cCnt  : Step ((cCnt l g).To N R B C) (C l g) := ⟨To_cCnt.mpr⟩
instance st_cStpk {v i : Sm} {j : Nat} : Step ((cSt v (.pk j) i l g).To N R B C) ((v l g).To fun x _ l g => OTo (slotP l j) fun _ => (i l g).To fun y _ l g => (stFin (slotP l j) y x l g).To N R B C) := ⟨To_cStpk.mpr⟩
instance st_cAsg {t : Tg} {m : Sm} : Step ((cAsg t m l g).To N R B C) ((m l g).To fun d _ l g => OTo (t.put d l g) fun l => N l g) := ⟨To_cAsg.mpr⟩
instance st_cAugA {i : Nat} {m : Sm} : Step ((cAug i dAddI m l g).To N R B C) (OTo (vlD l i) fun x => (m l g).To fun y _ l g => (dAddI x y).To fun d _ => N (l.set i (some (.val d))) g) := ⟨To_cAugA.mpr⟩
instance st_cAugS {i : Nat} {m : Sm} : Step ((cAug i dSubI m l g).To N R B C) (OTo (vlD l i) fun x => (m l g).To fun y _ l g => (dSubI x y).To fun d _ => N (l.set i (some (.val d))) g) := ⟨To_cAugS.mpr⟩
instance st_cBox {m : Sm} : Step ((cBox m l g).To P) ((m l g).To fun d f l g => f = true ∧ P (.ref g.length) false l (g ++ [.box d])) := ⟨To_cBox.mpr⟩
instance st_cOpt0 {k : Option Int → Sm} : Step ((cOpt none k l g).To P) ((k none l g).To P) := ⟨To_cOpt0.mpr⟩
instance st_cOpt1 {m : Sm} {k : Option Int → Sm} : Step ((cOpt (some m) k l g).To P) ((m l g).To fun x _ l g => onI x fun i => (k (some i) l g).To P) := ⟨To_cOpt1.mpr⟩
instance st_cSlev {m : Sm} {lo hi : Option Sm} : Step ((cSl (.ev m) lo hi l g).To P) ((m l g).To fun x _ l g => (cOpt lo (fun a => cOpt hi fun b l g => lift (dSl (x.cont g) a b) l g) l g).To P) := ⟨To_cSlev.mpr⟩
instance st_cSlpk {i : Nat} {lo hi : Option Sm} : Step ((cSl (.pk i) lo hi l g).To P) (OTo (slotD l i) fun _ => (cOpt lo (fun a => cOpt hi fun b l g => match slotD l i with
      | some x => lift (dSl (x.cont g) a b) l g
      | none => .no) l g).To P) := ⟨To_cSlpk.mpr⟩
instance st_cChain {f f' : D → D → PR} {a b c : Sm} : Step ((cChain f f' a b c l g).To P) ((a l g).To fun x _ l g => (b l g).To fun y _ l g => (f (x.cont g) (y.cont g)).To fun r _ => onB r ((c l g).To fun z _ l g => (f' (y.cont g) (z.cont g)).To fun d f => P d f l g) (P (.bl false) false l g) False) := ⟨To_cChain.mpr⟩
instance st_cStr1 {f : Str → D → PR} {m : Sm} {b : Opd} : Step ((cStr1 f m b l g).To P) ((m l g).To fun x _ l g => onS x fun z => (cU (f z) b l g).To P) := ⟨To_cStr1.mpr⟩
instance st_cDct {ms : List (Sm × Sm)} : Step ((cDct ms l g).To P) ((cPairs ms (fun ps l g => if keysOk ps = true ∧ ps.length ≤ 15 then .ok (mkD ps) true l g else .no) l g).To P) := ⟨To_cDct.mpr⟩
instance st_cPairs {mk mv : Sm} {ms : List (Sm × Sm)} {k : List (D × D) → Sm} : Step ((cPairs ((mk, mv) :: ms) k l g).To P) ((mk l g).To fun x _ l g => (mv l g).To fun y _ l g => (cPairs ms (fun ps => k ((x, y) :: ps)) l g).To P) := ⟨To_cPairs.mpr⟩
instance st_cPairs0 {k : List (D × D) → Sm} : Step ((cPairs [] k l g).To P) ((k [] l g).To P) := ⟨To_cPairs0.mpr⟩
instance st_lift {o : PR} : Step ((lift o l g).To P) (o.To fun d f => P d f l g) := ⟨To_lift.mpr⟩
instance st_ok {d : D} {f : Bool} : Step ((ER.ok d f l g).To P) (P d f l g) := ⟨To_ok.mpr⟩
instance st_slotM {o : Option D} {k : D → ER} : Step ((ER.To (match o with | some x => k x | none => .no) P)) (OTo o fun x => (k x).To P) := ⟨To_slotM.mpr⟩
end
end Y
/-! the end, with tables -/
namespace Y
open PySem L2
section
variable [TabC] {N B C : Lc → Gs → Prop} {R : D → Bool → Gs → Prop}
theorem turn_To {r : SR} {k : Sg} (h : r.To (fun l g => (k l g).To N R B C) R N (fun l g => (k l g).To N R B C)) : (turn r k).To N R B C := by
  cases r with
  | nx l g => exact STo_nx.mp h
  | ct l g => exact STo_ct.mp h
  | bk l g => exact STo_nx.mpr (STo_bk.mp h)
  | rt d f g => exact STo_rt.mpr (STo_rt.mp h)
  | ex c d l g => with_unfolding_all exact (show False from h).elim
  | no => exact (STo_no.mp h).elim
/-- THE RULE of a while: I m l g, m falls at each turn -/
theorem whl_rule {c : Sm} {b : Sg} (I : Nat → Lc → Gs → Prop)
    (step : ∀ m l g, I m l g → (c l g).To fun x _ l1 g1 => onB x ((b l1 g1).To (fun l2 g2 => ∃ k, k < m ∧ I k l2 g2) R N (fun l2 g2 => ∃ k, k < m ∧ I k l2 g2)) (N l1 g1) False) :
    ∀ {n m : Nat} {l : Lc} {g : Gs}, I m l g → m < n → (whl c b n l g).To N R B C
  | 0, m, l, g, _, hm => absurd hm (Nat.not_lt_zero _)
  | n + 1, m, l, g, h0, hm => by
    unfold whl
    refine To_sBind.mpr ((step m l g h0).imp fun x _ l1 g1 h => ?_)
    cases x with
    | bl t =>
      cases t with
      | true =>
        refine turn_To ?_
        refine SR.To.imp (show (b l1 g1).To _ R N _ from h) ?_ (fun _ _ _ h => h) (fun _ _ h => h) ?_
        · rintro l2 g2 ⟨k, hk, hi⟩
          exact whl_rule I step hi (by omega)
        · rintro l2 g2 ⟨k, hk, hi⟩
          exact whl_rule I step hi (by omega)
      | false => exact STo_nx.mpr h
    | _ => exact (show False from h).elim
end
def lamName (x : Str) : Str := (x ++ ".<locals>.") ++ "<lambda>"
def tabsOf (K : PySem.W.Frag) (ns : List Str) : List (Addr × Str) := ns.filterMap fun x => (PySem.W.tabIn K x).map fun p => (p.2, lamName x)
def tabsCs (K : PySem.W.Frag) (ns : List Str) : List (Addr × Addr) := ns.filterMap fun x => PySem.W.tabIn K x
def tabsOk (K : PySem.W.Frag) (ns : List Str) : Bool := (ns.all fun x => match PySem.W.tabIn K x with
  | some (_, P) => (K.lookup P).isNone
  | none => false) && (tabsOf K ns).all fun p => (tabsOf K ns).all fun r => !decide (p.1 = r.1) || decide (p.2 = r.2)
section
open PySem.Spec PyProof.Rows LamX
/-- the abstract heap at the law's call: its tables, and the script where the head has not pinned it -/
def endH (ts : List Addr) (K : PySem.W.Frag) (a : Addr) (o : Obj) (is : List Int) : Hp := fun b => if b ∈ ts then some (.tbl #[]) else if b = a ∧ K.lookup a = none then some (.frz o (.lst (is.map V.int))) else none
theorem endH_cases {ts : List Addr} {K : PySem.W.Frag} {a : Addr} {o : Obj} {is : List Int} {b : Addr} : (b ∈ ts ∧ endH ts K a o is b = some (.tbl #[])) ∨ (b ∉ ts ∧ b = a ∧ K.lookup a = none ∧ endH ts K a o is b = some (.frz o (.lst (is.map V.int)))) ∨ (b ∉ ts ∧ ¬ (b = a ∧ K.lookup a = none) ∧ endH ts K a o is b = none) := by
  unfold endH
  by_cases h : b ∈ ts
  · exact .inl ⟨h, if_pos h⟩
  · by_cases h2 : b = a ∧ K.lookup a = none
    · exact .inr (.inl ⟨h, h2.1, h2.2, by rw [if_neg h, if_pos h2]⟩)
    · exact .inr (.inr ⟨h, h2, by rw [if_neg h, if_neg h2]⟩)
theorem law_end {P : Program} {w : World} {K : PySem.W.Frag} {mg mb : Str → Option Value} {k : Nat} {fa a : Addr} {cs : List (Addr × Addr)} {fd : FuncData} {x : Str} {sp : Sp} {t : Shared} {vs : List Value} {is : List Int}
    (kin : K.In t.heap) (gl : t.heap.Ns mainGlobals mg) (bl : t.heap.Ns builtinsNs mb) (bb : ∀ x : Str, x ≠ "__name__" → mb x = bootBuiltins x) (nolim : t.heap.NoLimit) (gens : t.gens = #[])
    (tb : ∀ p ∈ cs, t.heap.get? p.2 = some { cls := .none, data := .fields #[] }) (tk : ∀ p ∈ cs, K.lookup p.2 = none) (hd : ∀ p ∈ cs, PySem.W.CodeHd t.heap p.1 p.2)
    (bm : ∃ (m : Addr) (ob : Obj), mg "__builtins__" = some (.ref m) ∧ m ≠ builtinsNs ∧ t.heap.get? m = some ob ∧ ob.cls = .type "module" ∧ ob.dict = some builtinsNs ∧ ob.data = .plain)
    (script : t.heap.get? a = some { cls := .type "list", data := .seq vs.toArray }) (scr : IntsAre vs is) (few : is.length ≤ sizeLine) (room : Room k callerA)
    (F : ∀ base : Heap, K.In base → base.Ns mainGlobals mg → (∀ p ∈ cs, TabB base mg p.1 p.2) → FnG P w K mg base k fa fd [x] sp) (bind : ∀ (s : Shared) (u : Value), BindsTo s fd ⟨[u], []⟩ [(x, u)])
    (wish : ∀ H : Hp, (∀ p ∈ cs, H p.2 = some (.tbl #[])) → SqL K H a (is.map V.int) → sp [.ref a] H (fun v _ => v = .bl true) E0) :
    codeAny (model P w) callerA (.call (.ref fa) ⟨[.ref a], []⟩) (fun r t' => r = .ok (.ret (.bool true)) ∧ OldK t.heap t'.heap ∧ t'.os = t.os ∧ AllBare t'.gens) t := by
  have vi := vals_ints scr
  have vl : is.length = vs.length := (by simpa using vi.length)
  let lo : Obj := { cls := .type "list", data := .seq vs.toArray }
  let ts := cs.map (·.2)
  let H := endH ts K a lo is
  have tabAt : ∀ b, b ∈ ts → t.heap.get? b = some { cls := .none, data := .fields #[] } := fun b h => by
    obtain ⟨p, hp, rfl⟩ := List.mem_map.mp h
    exact tb p hp
  have tabK : ∀ b, b ∈ ts → K.lookup b = none := fun b h => by
    obtain ⟨p, hp, rfl⟩ := List.mem_map.mp h
    exact tk p hp
  have aOut : a ∉ ts := fun h => by
    have q := (tabAt a h).symm.trans script
    have q2 : Data.fields #[] = Data.seq vs.toArray _ := congrArg Obj.data (Option.some.inj q)
    cases q2
  have cases' := fun b => endH_cases (ts := ts) (K := K) (a := a) (o := lo) (is := is) (b := b)
  have hTab : ∀ p ∈ cs, H p.2 = some (.tbl #[]) := fun p hp => by
    have m : p.2 ∈ ts := List.mem_map.mpr ⟨p, hp, rfl⟩
    rcases cases' p.2 with ⟨_, e⟩ | ⟨n, _⟩ | ⟨n, _⟩
    · exact e
    · exact absurd m n
    · exact absurd m n
  -- an object whose data is neither a row nor fields is not tracked
  have free : ∀ {b : Addr} {o : Obj}, t.heap.get? b = some o → (∀ us n, o.data ≠ .seq us n) → o.data ≠ .fields #[] → H b = none := fun {b o} e n1 n2 => by
    rcases cases' b with ⟨m, _⟩ | ⟨_, rfl, _, _⟩ | ⟨_, _, e'⟩
    · have q := (tabAt b m).symm.trans e
      cases q
      exact absurd rfl n2
    · have q := script.symm.trans e
      cases q
      exact absurd rfl (n1 _ _)
    · exact e'
  have freeK : ∀ {b : Addr} {o : Obj}, K.lookup b = some o → H b = none := fun {b o} e => by
    rcases cases' b with ⟨m, _⟩ | ⟨_, rfl, n, _⟩ | ⟨_, _, e'⟩
    · rw [tabK b m] at e; cases e
    · rw [n] at e; cases e
    · exact e'
  have ns' : ∀ {b : Addr} {m : Str → Option Value}, t.heap.Ns b m → (hidT t.heap H).Ns b m := fun {b m} ⟨o, es, ep, e, d, r⟩ =>
    ⟨o, es, ep, hidT_get e (free e (fun us n z => by rw [d] at z; cases z) (fun z => by rw [d] at z; cases z)), d, r⟩
  have inK : K.In (hidT t.heap H) := fun b o e => hidT_get (kin b o e) (freeK e)
  have theMod : L2.Mod K mg (hidT t.heap H) := ⟨inK, ns' gl, ⟨mb, ns' bl, bb⟩, nolim.elim fun mc h => ⟨mc, ns' h.1, h.2⟩⟩
  have theTabs : ∀ p ∈ cs, TabB (hidT t.heap H) mg p.1 p.2 := fun p hp => by
    have pAt := tb p hp
    have notG : mainGlobals ≠ p.2 := fun z => by
      obtain ⟨o, es, ep, e, d, _⟩ := gl
      rw [z] at e
      have q := pAt.symm.trans e
      cases q
      cases d
    refine ⟨?_, ?_, notG⟩
    · obtain ⟨o, us, f1, f2, f3, f4, f5, f6, f7, e1, r1, r2, r3, rest⟩ := hd p hp
      refine ⟨o, us, f1, f2, f3, f4, f5, f6, f7, hidT_get e1 (free e1 (fun us n z => by rw [r2] at z; cases z) (fun z => ?_)), r1, r2, r3, rest⟩
      rw [r2] at z
      cases z
      simp at r3
    · obtain ⟨m, ob, b1, b2, b3, b4, b5, b6⟩ := bm
      refine ⟨m, ob, b1, b2, fun z => ?_, fun z => ?_, hidT_get b3 (free b3 (fun us n z => by rw [b6] at z; cases z) (fun z => by rw [b6] at z; cases z)), b4, b5, b6⟩
      · obtain ⟨o, es, ep, e, d, _⟩ := gl
        rw [z] at b3
        have q := b3.symm.trans e
        cases q
        rw [b6] at d
        cases d
      · rw [z] at b3
        have q := pAt.symm.trans b3
        cases q
        cases b6
  have hok : HOk P w H t.heap := fun b u e => by
    rcases cases' b with ⟨m, e'⟩ | ⟨_, rfl, _, e'⟩ | ⟨_, _, e'⟩
    · have q : some u = some (HO.tbl #[]) := e.symm.trans e'
      cases q
      exact tabAt b m
    · have q : some u = some (HO.frz lo (.lst (is.map V.int))) := e.symm.trans e'
      cases q
      exact ⟨script, by rw [List.length_map]; exact few, vs, _, vi, script⟩
    · have q : some u = none := e.symm.trans e'
      cases q
  have row : SqL K H a (is.map V.int) := by
    cases ek : K.lookup a with
    | some o =>
      have q := (kin a o ek).symm.trans script
      cases q
      exact .inr ⟨_, vs.toArray, _, ek, rfl, rfl, rfl, by rw [List.size_toArray, ← vl]; exact few, by simpa using vi⟩
    | none =>
      rcases cases' a with ⟨m, _⟩ | ⟨_, _, _, e'⟩ | ⟨_, n, _⟩
      · exact absurd m aOut
      · exact .inl (.inr ⟨lo, e'⟩)
      · exact absurd ⟨rfl, ek⟩ n
  have env : Env0 P w K mg (hidT t.heap H) callerA [] t H := ⟨rfl, theMod, fun b o e => of_hidT e, Nat.le_of_eq (hidT_size _ _), trivial, (fun b z => by cases z), hok, .of_eq gens⟩
  refine codeAny_mono ((F _ inK (ns' gl) theTabs).run callerA [] t H ⟨[.ref a], []⟩ [.ref a] [.ref a] _ room rfl env (bind t (.ref a)) (.cons rfl .nil) (wish H hTab row)) fun r t' got => ?_
  match r, got with
  | .error e, got => exact False.elim got
  | .ok .next, got => exact False.elim got
  | .ok .brk, got => exact False.elim got
  | .ok .cont, got => exact False.elim got
  | .ok (.ret u), ⟨v, H', os, bare, un, hok', rel, vt⟩ =>
    have vt : v = .bl true := vt
    subst vt
    obtain rfl : u = Value.bool true := rel
    have old : ∀ b o, b ∉ ts → t.heap.get? b = some o → t'.heap.get? b = some o := fun b o n e => by
      rcases cases' b with ⟨m, _⟩ | ⟨_, rfl, _, e'⟩ | ⟨_, _, e'⟩
      · exact absurd m n
      · have q := (hok' b _ (un.frzs b _ _ e')).1
        have q2 := script.symm.trans e
        cases q2
        exact q
      · exact un.keep b o e e' (fun z => by cases z) (fun z => by cases z)
    have more : ∀ b, b ∈ ts → ∃ us : Array Value, t'.heap.get? b = some { cls := .none, data := .fields us } := fun b m => by
      obtain ⟨p, hp, rfl⟩ := List.mem_map.mp m
      obtain ⟨us, e⟩ := un.tbls p.2 #[] (hTab p hp)
      exact ⟨_, hok' p.2 _ e⟩
    refine ⟨rfl, ⟨fun b o e => ?_, fun b o e => ?_⟩, os, bare⟩
    · by_cases m : b ∈ ts
      · obtain ⟨us, e2⟩ := more b m
        obtain ⟨p, hp, rfl⟩ := List.mem_map.mp m
        have q := (tb p hp).symm.trans e
        cases q
        exact .inr (.inl ⟨((hd p hp).tab (tb p hp)).isCodeTable, rfl, #[], us, rfl, by rw [Array.empty_append]; exact e2⟩)
      · exact .inl (old b o m e)
    · by_cases m : b ∈ ts
      · obtain ⟨us, e2⟩ := more b m
        exact ⟨_, e2⟩
      · exact ⟨o, old b o m e⟩
theorem walk_tabs {l : PySem.W.OpenLaw} {n k : Nat} {q : Program} {loose : List Str} {XP : (Str → Option Value) → Heap → Prop} {YP : World → Heap → Prop} {d : DefRec} {K : Params → PySem.W.Frag} {sp : PySem.W.Frag → Sp} {x : Str} (ns : List Str)
    (hn : l.most = some n) (hn2 : n ≤ sizeLine) (hdf : d.params.defaults = []) (hr : Room k callerA) (hY : ∀ (w : World) (h : Heap), YP w h → (K w.params).In h)
    (hq : (ns.all fun x => ((recsOf q).find? fun e => e.name == x).isSome) = true) (hK : ∀ P, tabsOk (K P) ns = true)
    (F : ∀ (w : World) (mg : Str → Option Value) (fa : Addr) (h : Heap), (K w.params).In h → h.Ns mainGlobals mg → mg d.name = some (.ref fa) →
      ∃ fd : FuncData, (∀ (s : Shared) (u : Value), BindsTo s fd ⟨[u], []⟩ [(x, u)]) ∧
        ∀ base : Heap, (K w.params).In base → base.Ns mainGlobals mg → (∀ p ∈ tabsCs (K w.params) ns, TabB base mg p.1 p.2) → FnG l.prog w (K w.params) mg base k fa fd [x] (sp (K w.params)))
    (hsp : ∀ (K : PySem.W.Frag) (H : Hp) (a : Addr) (is : List Int), is.length ≤ n → Tabs (tabsOf K ns) H → SqL K H a (is.map V.int) → sp K [.ref a] H (fun v _ => v = .bl true) E0) :
    PySem.W.WalkO q loose XP YP l.row.toRowW d [] (fun f vs => PySem.call f vs) := by
  refine Att.attach_callB hn hdf fun w s₀ t mg mb fa o pm cd doc a vs is G Y ho hd hcd hmg hobj hints hlen hbits hg => ?_
  have KX := hY w _ Y
  obtain ⟨fd, hb, hF⟩ := F w mg fa _ KX G.T.g hmg
  have ok := hK w.params
  unfold tabsOk at ok
  rw [Bool.and_eq_true, List.all_eq_true] at ok
  have mem : ∀ p ∈ tabsCs (K w.params) ns, ∃ x ∈ ns, PySem.W.tabIn (K w.params) x = some p := fun p hp => by
    obtain ⟨x, hx, e⟩ := List.mem_filterMap.mp hp
    exact ⟨x, hx, e⟩
  have at_ : ∀ p ∈ tabsCs (K w.params) ns, PySem.W.CodeHd t.heap p.1 p.2 ∧ t.heap.get? p.2 = some (PySem.W.tabObj #[]) := fun p hp => by
    obtain ⟨x, hx, e⟩ := mem p hp
    obtain ⟨dr, hdr⟩ := Option.isSome_iff_exists.mp (List.all_eq_true.mp hq x hx)
    exact PySem.W.tab_of G.T KX hdr e
  have nl : ∀ p ∈ tabsCs (K w.params) ns, (K w.params).lookup p.2 = none := fun p hp => by
    obtain ⟨x, hx, e⟩ := mem p hp
    have := ok.1 x hx
    rw [e] at this
    exact Option.isNone_iff_eq_none.mp this
  exact law_end KX G.T.g G.T.b G.T.builtins G.T.nolimit hg (fun p hp => (at_ p hp).2) nl (fun p hp => (at_ p hp).1) G.T.bmain hobj hints (Nat.le_trans hlen hn2) hr hF hb fun H hH hS => hsp (K w.params) H a is hlen (fun p hp => by
    obtain ⟨x, hx, e⟩ := List.mem_filterMap.mp hp
    rw [Option.map_eq_some_iff] at e
    obtain ⟨r, e1, rfl⟩ := e
    exact TabS.nil (hH r (List.mem_filterMap.mpr ⟨x, hx, e1⟩))) hS
end
theorem lamsK_of {K : PySem.W.Frag} {mg : Str → Option Value} {base : Heap} {T : List DefE} {ns : List Str} (X : K.In base) (G : base.Ns mainGlobals mg) (hT : (T.all fun e => !e.lam || ns.contains e.x) = true) (hok : tabsOk K ns = true)
    (hTB : ∀ p ∈ tabsCs K ns, LamX.TabB base mg p.1 p.2) : @LamsK ⟨tabsOf K ns⟩ K mg base T := by
  intro j e f fd he hk hl
  have hx : e.x ∈ ns := by
    have := List.all_eq_true.mp hT e (List.mem_of_getElem? he)
    rw [hl, Bool.not_true, Bool.false_or] at this
    simpa using this
  unfold tabsOk at hok
  rw [Bool.and_eq_true, List.all_eq_true, List.all_eq_true] at hok
  have h1 := hok.1 e.x hx
  cases ht : PySem.W.tabIn K e.x with
  | none => rw [ht] at h1; cases h1
  | some p =>
    obtain ⟨c, P⟩ := p
    have hc : (c, P) ∈ tabsCs K ns := List.mem_filterMap.mpr ⟨e.x, hx, ht⟩
    have hm : (P, lamName e.x) ∈ tabsOf K ns := List.mem_filterMap.mpr ⟨e.x, hx, by rw [ht]; rfl⟩
    obtain ⟨dvs, hF⟩ := hk.F
    obtain ⟨oc, od, dV, kV, doc, pm, an, cdv, ct, osl, e1, lk, _⟩ := hF.ex
    refine ⟨c, P, hTB _ hc, PySem.W.law_code X G ht hk.m (X _ _ lk) rfl, hm, fun q hq hqp => ?_⟩
    have := List.all_eq_true.mp (hok.2 q hq) _ hm
    rw [decide_eq_true hqp, Bool.not_true, Bool.false_or] at this
    exact of_decide_eq_true this
theorem mk_lift [TabC] {P : Program} {w : World} {K : PySem.W.Frag} {mg : Str → Option Value} {k : Nat} {fa : Addr} {x : Str} {F : Fn} {T : List DefE} {cs : List (Addr × Addr)}
    (hl : ∀ base : Heap, K.In base → base.Ns mainGlobals mg → (∀ p ∈ cs, LamX.TabB base mg p.1 p.2) → LamsK K mg base T)
    (q : ∃ fd : FuncData, (∀ (s : Shared) (v : Value), BindsTo s fd ⟨[v], []⟩ [(x, v)]) ∧ ∀ base : Heap, K.In base → base.Ns mainGlobals mg → LamsK K mg base T → FnG P w K mg base k fa fd [x] (spD K F)) :
    ∃ fd : FuncData, (∀ (s : Shared) (v : Value), BindsTo s fd ⟨[v], []⟩ [(x, v)]) ∧ ∀ base : Heap, K.In base → base.Ns mainGlobals mg → (∀ p ∈ cs, LamX.TabB base mg p.1 p.2) → FnG P w K mg base k fa fd [x] (spD K F) := by
  obtain ⟨fd, h1, h2⟩ := q
  exact ⟨fd, h1, fun base X G h => h2 base X G (hl base X G h)⟩
end Y
namespace Y
variable [TI : TabC]
open PySem L2
/-- kin, house, row -/
def m_children_of : Sg :=
  (cSq (cRet (cU dSorted (.ev (cLc (iPlain (cVar 0)) (.nm 2) [2] (some (cAnd (c2 dEq (.ev (c2 dIx (.pk 2) (.ev (cC (.int 0))))) (.pk 1)) (c2 dEq (.ev (c2 dIx (.pk 2) (.ev (cC (.int 2))))) (.ev (cC (.str "over")))))) (c2 dIx (.pk 2) (.ev (cC (.int 1))))))))
  cNil)
/-- kin, left, rest, row, house, child -/
def m_elder_ring (f_children_of f_ring_among : Fn) : Sg :=
  (cSq (cSet 1 (cU dSortSet (.ev (c2 dAdd (.ev (cLc (iPlain (cVar 0)) (.nm 3) [3] none (c2 dIx (.pk 3) (.ev (cC (.int 0)))))) (.ev (cLc (iPlain (cVar 0)) (.nm 3) [3] none (c2 dIx (.pk 3) (.ev (cC (.int 1))))))))))
  (cSq (whl (c2 dGt (.ev (cU dLen (.pk 1))) (.ev (cC (.int 0))))
    (cSq (cSet 2 (cLc (iPlain (cVar 1)) (.nm 4) [4] (some (cU dTruth (.ev (cU dAny (.ev (cLc (iPlain (cCall f_children_of [] [(cVar 0), (cVar 4)])) (.nm 5) [5] none (c2 dIn (.pk 5) (.pk 1)))))))) (cVar 4)))
    (cSq (cIfS (c2 dEq (.ev (cU dLen (.pk 2))) (.ev (cU dLen (.pk 1))))
      (cSq (cRet (cCall f_ring_among [] [(cVar 0), (cVar 1)]))
      cNil)
      cNil)
    (cSq (cSet 1 (cVar 2))
    cNil))) 1000)
  (cSq (cRet (cC .non))
  cNil)))
/-- kin, houses, row, child -/
def m_ring_among (f_children_of : Fn) : Sg :=
  (cSq (cSet 2 (cLst [(c2 dIx (.pk 1) (.ev (cC (.int 0))))]))
  (cSq (whl (c2 dNin (.ev (c2 dIx (.pk 2) (.ev (cU dNeg (.ev (cC (.int 1))))))) (.ev (cSl (.pk 2) none (some (cU dNeg (.ev (cC (.int 1))))))))
    (cSq (cDrop (cMu isLst muAppend (.pk 2) [(c2 dIx (.ev (cLc (iPlain (cCall f_children_of [] [(cVar 0), (c2 dIx (.pk 2) (.ev (cU dNeg (.ev (cC (.int 1))))))])) (.nm 3) [3] (some (c2 dIn (.pk 3) (.pk 1))) (cVar 3))) (.ev (cC (.int 0))))]))
    cNil) 1000)
  (cSq (cRet (cBox (cSl (.pk 2) (some (cIndex (.pk 2) (c2 dIx (.pk 2) (.ev (cU dNeg (.ev (cC (.int 1)))))))) none)))
  cNil)))
/-- _law_script, _law_k, _law_cell -/
def m__law_hand : Sg :=
  (cSq (cSet 2 (cC (.int 0)))
  (cSq (cIfS (c2 dLt (.pk 1) (.ev (cU dLen (.pk 0))))
    (cSq (cSet 2 (c2 dIx (.pk 0) (.pk 1)))
    cNil)
    cNil)
  (cSq (cRet (cBox (cLst [(c2 dMul3 (.pk 2) (.ev (cU dInt (.ev (c2 dGe (.pk 2) (.ev (c2 dPow (.ev (cC (.int 10))) (.ev (cC (.int 18)))))))))), (c2 dAdd (.ev (c2 dAdd (.ev (c2 dMod (.pk 2) (.ev (cC (.int 2305843009213693951))))) (.ev (c2 dMul3 (.ev (cC (.int 7919))) (.pk 1))))) (.ev (cC (.int 3)))), (cC (.int 0))])))
  cNil)))
/-- _law_hand_here, _law_many, _law_digit, _law_turn, _law_mixed, _law_more -/
def m__law_take : Sg :=
  (cSq (cIfS (c2 dGt (.ev (c2 dIx (.pk 0) (.ev (cC (.int 0))))) (.ev (cC (.int 0))))
    (cSq (cSet 2 (c2 dMod (.ev (c2 dIx (.pk 0) (.ev (cC (.int 0))))) (.pk 1)))
    (cSq (cSt (c2 dFdiv (.ev (c2 dIx (.pk 0) (.ev (cC (.int 0))))) (.pk 1)) (.pk 0) (cC (.int 0)))
    (cSq (cRetV 2)
    cNil)))
    cNil)
  (cSq (cSt (c2 dAdd (.ev (c2 dIx (.pk 0) (.ev (cC (.int 2))))) (.ev (cC (.int 1)))) (.pk 0) (cC (.int 2)))
  (cSq (cSet 3 (c2 dIx (.pk 0) (.ev (cC (.int 2)))))
  (cSq (cSet 4 (c2 dMod (.ev (c2 dMul3 (.ev (c2 dIx (.pk 0) (.ev (cC (.int 1))))) (.ev (c2 dAdd (.ev (c2 dAdd (.ev (cC (.int 48271))) (.ev (c2 dMul3 (.ev (c2 dMul3 (.ev (cC (.int 2))) (.pk 3))) (.pk 3))))) (.ev (c2 dMul3 (.ev (cC (.int 65537))) (.pk 3))))))) (.ev (cC (.int 2305843009213693921)))))
  (cSq (cSet 5 (c2 dAdd (.ev (c2 dAdd (.ev (c2 dMod (.pk 4) (.ev (cC (.int 1000003))))) (.ev (c2 dMul3 (.pk 3) (.ev (cC (.int 99991))))))) (.ev (cC (.int 11)))))
  (cSq (cSet 4 (c2 dMod (.ev (c2 dMul3 (.pk 4) (.pk 5))) (.ev (cC (.int 2305843009213693907)))))
  (cSq (cRet (c2 dMod (.ev (c2 dAdd (.ev (c2 dFdiv (.pk 4) (.ev (cC (.int 97))))) (.ev (c2 dFdiv (.pk 4) (.ev (cC (.int 1000033))))))) (.pk 1)))
  cNil)))))))
/-- _law_hand_here, _law_some -/
def m__law_pick (f__law_take : Fn) : Sg :=
  (cSq (cRet (c2 dIx (.pk 1) (.ev (cCall f__law_take [] [(cVar 0), (cU dLen (.pk 1))]))))
  cNil)
/-- _law_hand_here, _law_many, _law_letters, _law_first, _law_step, _law_names_here, _law_kept, _law_spot, _law_k -/
def m__law_names (f__law_take f__law_pick : Fn) : Sg :=
  (cSq (cSet 2 (cC (.str "abcdefghijklmnopqrstuvwxyz")))
  (cSq (cSet 3 (cCall f__law_take [] [(cVar 0), (cC (.int 26))]))
  (cSq (cSet 4 (cCall f__law_pick [] [(cVar 0), (cLst [(cC (.int 1)), (cC (.int 3)), (cC (.int 5)), (cC (.int 7)), (cC (.int 9)), (cC (.int 11))])]))
  (cSq (cSet 5 (cLc (iRange1 (cVar 1)) (.nm 8) [8] none (c2 dMul3 (.ev (c2 dIx (.pk 2) (.ev (c2 dMod (.ev (c2 dAdd (.pk 3) (.ev (c2 dMul3 (.pk 4) (.pk 8))))) (.ev (cC (.int 26))))))) (.ev (c2 dAdd (.ev (cC (.int 1))) (.ev (c2 dMod (.ev (c2 dAdd (.ev (c2 dMul3 (.pk 8) (.pk 8))) (.pk 3))) (.ev (cC (.int 8))))))))))
  (cSq (cIfS (c2 dEq (.ev (cCall f__law_take [] [(cVar 0), (cC (.int 6))])) (.ev (cC (.int 0))))
    (cSq (cSet 6 (cLst [(cC (.str "goal")), (cC (.str "to")), (cC (.str "by")), (cC (.str "houses")), (cC (.str "tie")), (cC (.str "like")), (cC (.str "hand")), (cC (.str "keep")), (cC (.str "put")), (cC (.str "mark")), (cC (.str "long")), (cC (.str "from")), (cC (.str "strike"))]))
    (cSq (cSet 7 (cCall f__law_take [] [(cVar 0), (cC (.int 13))]))
    (cSq (cFor (iRange1 (c2 dMin2A (.pk 1) (.ev (cC (.int 4))))) (.nm 8)
      (cSq (cSt (c2 dIx (.pk 6) (.ev (c2 dMod (.ev (c2 dAdd (.pk 7) (.ev (c2 dMul3 (.ev (cC (.int 3))) (.pk 8))))) (.ev (cC (.int 13)))))) (.pk 5) (cVar 8))
      cNil))
    cNil)))
    cNil)
  (cSq (cRetV 5)
  cNil))))))
/-- _law_hand_here, _law_houses, _law_many, _law_rows_here, _law_k, _law_one, _law_other, _law_row, _law_two -/
def m__law_rows (f__law_pick : Fn) : Sg :=
  (cSq (cSet 3 cDctT)
  (cSq (cFor (iRange1 (cVar 2)) (.nm 4)
    (cSq (cPar 5 6 (cCall f__law_pick [] [(cVar 0), (cVar 1)]) (cCall f__law_pick [] [(cVar 0), (cVar 1)]))
    (cSq (cIfS (cAnd (c2 dNe (.pk 5) (.pk 6)) (c2 dNin (.ev (cTup [(c2 dMin2A (.pk 5) (.pk 6)), (c2 dMax2A (.pk 5) (.pk 6))])) (.pk 3)))
      (cSq (cSet 7 (cLst [(cTup [(cVar 5), (cVar 6), (cC (.str "over"))]), (cTup [(cVar 5), (cVar 6), (cC (.str "over"))]), (cTup [(c2 dMin2A (.pk 5) (.pk 6)), (c2 dMax2A (.pk 5) (.pk 6)), (cC (.str "equal"))])]))
      (cSq (cSt (cCall f__law_pick [] [(cVar 0), (cVar 7)]) (.pk 3) (cTup [(c2 dMin2A (.pk 5) (.pk 6)), (c2 dMax2A (.pk 5) (.pk 6))]))
      cNil))
      cNil)
    cNil)))
  (cSq (cRet (cLc (iPlain (cVar 3)) (.nm 8) [8] none (c2 dIx (.pk 3) (.pk 8))))
  cNil)))
/-- _law_hand_here, _law_houses, _law_size, _law_rows_here, _law_way, _law_one, _law_other, _law_word, _law_k -/
def m__law_ringed (f__law_take f__law_pick : Fn) : Sg :=
  (cSq (cSet 2 (c2 dAdd (.ev (cC (.int 3))) (.ev (cCall f__law_take [] [(cVar 0), (c2 dSub (.ev (cU dLen (.pk 1))) (.ev (cC (.int 2))))]))))
  (cSq (cSet 3 (cLc (iRange1 (cVar 2)) (.nm 8) [8] none (cTup [(c2 dIx (.pk 1) (.pk 8)), (c2 dIx (.pk 1) (.ev (c2 dMod (.ev (c2 dAdd (.pk 8) (.ev (cC (.int 1))))) (.pk 2)))), (cC (.str "over"))])))
  (cSq (cSet 4 (cCall f__law_take [] [(cVar 0), (cC (.int 4))]))
  (cSq (cIfS (c2 dEq (.pk 4) (.ev (cC (.int 1))))
    (cSq (cDrop (cMu isLst muPopAt (.pk 3) [(cCall f__law_take [] [(cVar 0), (cVar 2)])]))
    cNil)
    cNil)
  (cSq (cIfS (c2 dEq (.pk 4) (.ev (cC (.int 2))))
    (cSq (cAsg (.tp [5, 6, 7]) (cMu isLst muPopAt (.pk 3) [(cCall f__law_take [] [(cVar 0), (cVar 2)])]))
    (cSq (cDrop (cMu isLst muAppend (.pk 3) [(cTup [(c2 dMin2A (.pk 5) (.pk 6)), (c2 dMax2A (.pk 5) (.pk 6)), (cC (.str "equal"))])]))
    cNil))
    cNil)
  (cSq (cFor (iRange2 (cVar 2) (cU dLen (.pk 1))) (.nm 8)
    (cSq (cSet 6 (c2 dIx (.pk 1) (.ev (cCall f__law_take [] [(cVar 0), (cVar 8)]))))
    (cSq (cDrop (cMu isLst muAppend (.pk 3) [(cCall f__law_pick [] [(cVar 0), (cLst [(cTup [(c2 dIx (.pk 1) (.pk 8)), (cVar 6), (cC (.str "over"))]), (cTup [(cVar 6), (c2 dIx (.pk 1) (.pk 8)), (cC (.str "over"))])])])]))
    cNil)))
  (cSq (cRetV 3)
  cNil)))))))
/-- _law_kin, _law_rows_here, _law_many, _law_below, _law_row -/
def m__law_peeled : Sg :=
  (cSq (cSet 1 (cLc (iPlain (cVar 0)) (.nm 4) [4] (some (c2 dEq (.ev (c2 dIx (.pk 4) (.ev (cC (.int 2))))) (.ev (cC (.str "over"))))) (cVar 4)))
  (cSq (cSet 2 (c2 dAdd (.ev (cU dLen (.pk 1))) (.ev (cC (.int 1)))))
  (cSq (whl (c2 dLt (.ev (cU dLen (.pk 1))) (.pk 2))
    (cSq (cSet 2 (cU dLen (.pk 1)))
    (cSq (cSet 3 (cLc (iPlain (cVar 1)) (.nm 4) [4] none (c2 dIx (.pk 4) (.ev (cC (.int 1))))))
    (cSq (cSet 1 (cLc (iPlain (cVar 1)) (.nm 4) [4] (some (c2 dIn (.ev (c2 dIx (.pk 4) (.ev (cC (.int 0))))) (.pk 3))) (cVar 4)))
    cNil))) 1000)
  (cSq (cRet (c2 dEq (.pk 1) (.ev (cLst []))))
  cNil))))
/-- _law_kin, _law_found, _law_house, _law_one, _law_other -/
def m__law_right (f__law_peeled : Fn) : Sg :=
  (cSq (cIfS (cU dTruth (.ev (cCall f__law_peeled [] [(cVar 0)])))
    (cSq (cRet (c2 dIs (.pk 1) (.ev (cC .non))))
    cNil)
    cNil)
  (cSq (cIfS (cOr (cNot (cU dTruth (.ev (cU (isInst "list") (.pk 1))))) (cOr (c2 dLt (.ev (cU dLen (.pk 1))) (.ev (cC (.int 4)))) (c2 dNe (.ev (c2 dIx (.pk 1) (.ev (cC (.int 0))))) (.ev (c2 dIx (.pk 1) (.ev (cU dNeg (.ev (cC (.int 1))))))))))
    (cSq (cRet (cC (.bl false)))
    cNil)
    cNil)
  (cSq (cIfS (cOr (cNot (cU dTruth (.ev (cU dAll (.ev (cLc (iPlain (cVar 1)) (.nm 2) [2] none (cU (isInst "str") (.pk 2)))))))) (c2 dNe (.ev (cU dLenSet (.ev (cSl (.pk 1) (some (cC (.int 1))) none)))) (.ev (c2 dSub (.ev (cU dLen (.pk 1))) (.ev (cC (.int 1)))))))
    (cSq (cRet (cC (.bl false)))
    cNil)
    cNil)
  (cSq (cRet (cU dAll (.ev (cLc (iZip2 (cVar 1) (cSl (.pk 1) (some (cC (.int 1))) none)) (.tp [3, 4]) [3, 4] none (c2 dIn (.ev (cTup [(cVar 3), (cVar 4), (cC (.str "over"))])) (.pk 0))))))
  cNil))))
/-- _law_script, _law_k, _law_hand_here, _law_houses, _law_rows_here, _law_kin, _law_found -/
def m_law (f__law_hand f__law_names f__law_pick f__law_rows f__law_take f__law_ringed f_elder_ring f__law_right : Fn) : Sg :=
  (cSq (cFor (iRange1 (c2 dMax2A (.ev (cC (.int 2))) (.ev (c2 dMin2A (.ev (cC (.int 8))) (.ev (cU dLen (.pk 0))))))) (.nm 1)
    (cSq (cSet 2 (cCall f__law_hand [] [(cVar 0), (cVar 1)]))
    (cSq (cSet 3 (cCall f__law_names [] [(cVar 2), (cCall f__law_pick [] [(cVar 2), (cLst [(cC (.int 3)), (cC (.int 4)), (cC (.int 5)), (cC (.int 6)), (cC (.int 8)), (cC (.int 12))])])]))
    (cSq (cSet 4 (cCall f__law_rows [] [(cVar 2), (cVar 3), (cCall f__law_pick [] [(cVar 2), (cLst [(cC (.int 0)), (cC (.int 2)), (cC (.int 5)), (cC (.int 9)), (cC (.int 20))])])]))
    (cSq (cIfS (c2 dEq (.ev (cCall f__law_take [] [(cVar 2), (cC (.int 2))])) (.ev (cC (.int 0))))
      (cSq (cSet 4 (cCall f__law_ringed [] [(cVar 2), (cVar 3)]))
      cNil)
      cNil)
    (cSq (cSet 5 (cU dTuple (.ev (cU dSorted (.pk 4)))))
    (cSq (cSet 6 (cCall f_elder_ring [] [(cVar 5)]))
    (cSq (cIfS (cNot (cU dTruth (.ev (cCall f__law_right [] [(cVar 5), (cVar 6)]))))
      (cSq (cRet (cC (.bl false)))
      cNil)
      cNil)
    (cSq (cIfS (c2 dNis (.pk 6) (.ev (cC .non)))
      (cSq (cDrop (cMu isLst muRev (.pk 6) []))
      (cSq (cDrop (cMu isLst muAppend (.pk 6) [(cC (.str "x"))]))
      (cSq (cIfS (cNot (cU dTruth (.ev (cCall f__law_right [] [(cVar 5), (cCall f_elder_ring [] [(cVar 5)])]))))
        (cSq (cRet (cC (.bl false)))
        cNil)
        cNil)
      cNil)))
      cNil)
    cNil)))))))))
  (cSq (cRet (cC (.bl true)))
  cNil))
abbrev top (i : Nat) : Stmt := PySem.Challenge.pw_restways_k63_rings_of_elders.main.body.getD i (.Pass ⟨0, 0, 0, 0⟩)
def e_children_of : DefE := ⟨"children_of", top 1, ["kin", "house", "row"], ["kin", "house"], [], [], [], [], 1000, false⟩
def e_elder_ring : DefE := ⟨"elder_ring", top 2, ["kin", "left", "rest", "row", "house", "child"], ["kin"], [], [], [], [], 1000, false⟩
def e_ring_among : DefE := ⟨"ring_among", top 3, ["kin", "houses", "row", "child"], ["kin", "houses"], [(16, 11)], [], [], [], 1000, false⟩
def e__law_hand : DefE := ⟨"_law_hand", top 5, ["_law_script", "_law_k", "_law_cell"], ["_law_script", "_law_k"], [(22, 11)], [], [], [], 1000, false⟩
def e__law_take : DefE := ⟨"_law_take", top 6, ["_law_hand_here", "_law_many", "_law_digit", "_law_turn", "_law_mixed", "_law_more"], ["_law_hand_here", "_law_many"], [], [], [], [], 1000, false⟩
def e__law_pick : DefE := ⟨"_law_pick", top 7, ["_law_hand_here", "_law_some"], ["_law_hand_here", "_law_some"], [], [], [], [], 1000, false⟩
def e__law_names : DefE := ⟨"_law_names", top 8, ["_law_hand_here", "_law_many", "_law_letters", "_law_first", "_law_step", "_law_names_here", "_law_kept", "_law_spot", "_law_k"], ["_law_hand_here", "_law_many"], [], [], [], [], 1000, false⟩
def e__law_rows : DefE := ⟨"_law_rows", top 9, ["_law_hand_here", "_law_houses", "_law_many", "_law_rows_here", "_law_k", "_law_one", "_law_other", "_law_row", "_law_two"], ["_law_hand_here", "_law_houses", "_law_many"], [], [(48, 21)], [], [], 1000, false⟩
def e__law_ringed : DefE := ⟨"_law_ringed", top 10, ["_law_hand_here", "_law_houses", "_law_size", "_law_rows_here", "_law_way", "_law_one", "_law_other", "_law_word", "_law_k"], ["_law_hand_here", "_law_houses"], [], [], [], [], 1000, false⟩
def e__law_peeled : DefE := ⟨"_law_peeled", top 11, ["_law_kin", "_law_rows_here", "_law_many", "_law_below", "_law_row"], ["_law_kin"], [], [], [], [], 1000, false⟩
def e__law_right : DefE := ⟨"_law_right", top 12, ["_law_kin", "_law_found", "_law_house", "_law_one", "_law_other"], ["_law_kin", "_law_found"], [], [], [], [], 1000, false⟩
def e_law : DefE := ⟨"law", top 13, ["_law_script", "_law_k", "_law_hand_here", "_law_houses", "_law_rows_here", "_law_kin", "_law_found"], ["_law_script"], [], [], [], [], 1000, false⟩
def tab : List DefE := [e_children_of, e_elder_ring, e_ring_among, e__law_hand, e__law_take, e__law_pick, e__law_names, e__law_rows, e__law_ringed, e__law_peeled, e__law_right, e_law]
def bns : List Str := ["all", "any", "int", "isinstance", "len", "list", "max", "min", "range", "set", "sorted", "str", "tuple", "zip"]
def cvs : List (Str × D) := []
def means (j : Nat) (F : Nat → Fn) : Sg := match j with
  | 0 => m_children_of
  | 1 => m_elder_ring (F 0) (F 2)
  | 2 => m_ring_among (F 0)
  | 3 => m__law_hand
  | 4 => m__law_take
  | 5 => m__law_pick (F 4)
  | 6 => m__law_names (F 4) (F 5)
  | 7 => m__law_rows (F 5)
  | 8 => m__law_ringed (F 4) (F 5)
  | 9 => m__law_peeled
  | 10 => m__law_right (F 9)
  | 11 => m_law (F 3) (F 6) (F 5) (F 7) (F 4) (F 8) (F 1) (F 10)
  | _ => cNil
theorem hb_children_of (F : Nat → Fn) : compSs 60 (cfOf tab bns cvs F e_children_of) (defBody e_children_of.st) = some (means 0 F) := by kernel_rfl
theorem hb_elder_ring (F : Nat → Fn) : compSs 60 (cfOf tab bns cvs F e_elder_ring) (defBody e_elder_ring.st) = some (means 1 F) := by kernel_rfl
theorem hb_ring_among (F : Nat → Fn) : compSs 60 (cfOf tab bns cvs F e_ring_among) (defBody e_ring_among.st) = some (means 2 F) := by kernel_rfl
theorem hb__law_hand (F : Nat → Fn) : compSs 60 (cfOf tab bns cvs F e__law_hand) (defBody e__law_hand.st) = some (means 3 F) := by kernel_rfl
theorem hb__law_take (F : Nat → Fn) : compSs 60 (cfOf tab bns cvs F e__law_take) (defBody e__law_take.st) = some (means 4 F) := by kernel_rfl
theorem hb__law_pick (F : Nat → Fn) : compSs 60 (cfOf tab bns cvs F e__law_pick) (defBody e__law_pick.st) = some (means 5 F) := by kernel_rfl
theorem hb__law_names (F : Nat → Fn) : compSs 60 (cfOf tab bns cvs F e__law_names) (defBody e__law_names.st) = some (means 6 F) := by kernel_rfl
theorem hb__law_rows (F : Nat → Fn) : compSs 60 (cfOf tab bns cvs F e__law_rows) (defBody e__law_rows.st) = some (means 7 F) := by kernel_rfl
theorem hb__law_ringed (F : Nat → Fn) : compSs 60 (cfOf tab bns cvs F e__law_ringed) (defBody e__law_ringed.st) = some (means 8 F) := by kernel_rfl
theorem hb__law_peeled (F : Nat → Fn) : compSs 60 (cfOf tab bns cvs F e__law_peeled) (defBody e__law_peeled.st) = some (means 9 F) := by kernel_rfl
theorem hb__law_right (F : Nat → Fn) : compSs 60 (cfOf tab bns cvs F e__law_right) (defBody e__law_right.st) = some (means 10 F) := by kernel_rfl
theorem hb_law (F : Nat → Fn) : compSs 60 (cfOf tab bns cvs F e_law) (defBody e_law.st) = some (means 11 F) := by kernel_rfl
theorem hbs (j : Nat) (e : DefE) (F : Nat → Fn) (he : tab[j]? = some e) : compSs 60 (cfOf tab bns cvs F e) (defBody e.st) = some (means j F) := by
  match j, he with
  | 0, he =>
    have he : some e_children_of = some e := he
    cases he
    exact hb_children_of F
  | 1, he =>
    have he : some e_elder_ring = some e := he
    cases he
    exact hb_elder_ring F
  | 2, he =>
    have he : some e_ring_among = some e := he
    cases he
    exact hb_ring_among F
  | 3, he =>
    have he : some e__law_hand = some e := he
    cases he
    exact hb__law_hand F
  | 4, he =>
    have he : some e__law_take = some e := he
    cases he
    exact hb__law_take F
  | 5, he =>
    have he : some e__law_pick = some e := he
    cases he
    exact hb__law_pick F
  | 6, he =>
    have he : some e__law_names = some e := he
    cases he
    exact hb__law_names F
  | 7, he =>
    have he : some e__law_rows = some e := he
    cases he
    exact hb__law_rows F
  | 8, he =>
    have he : some e__law_ringed = some e := he
    cases he
    exact hb__law_ringed F
  | 9, he =>
    have he : some e__law_peeled = some e := he
    cases he
    exact hb__law_peeled F
  | 10, he =>
    have he : some e__law_right = some e := he
    cases he
    exact hb__law_right F
  | 11, he =>
    have he : some e_law = some e := he
    cases he
    exact hb_law F
  | n + 12, he => exact absurd he (by simp [tab])
theorem dk_children_of {K : PySem.W.Frag} {mg : Str → Option Value} {f : Addr} {oc : Value} {od an : Option Addr} {osl : Array (Option Value)} {kV doc pm cdv ct : Value} (l : K.lookup f = some ⟨oc, od, .func (PySem.W.fnOf "children_of" "children_of" (defArgs e_children_of.st) (defBody e_children_of.st) (defScope e_children_of.st) .none kV doc pm an cdv ct), osl⟩)
    (c : PySem.W.codeIn K cdv "children_of" = true) (k : PySem.W.keepIn K (.ref f) = true) (m : mg "children_of" = some (.ref f)) : DefK K mg e_children_of f (PySem.W.fnOf "children_of" "children_of" (defArgs e_children_of.st) (defBody e_children_of.st) (defScope e_children_of.st) .none kV doc pm an cdv ct) :=
  have F : FunD K e_children_of.x e_children_of.x (defArgs e_children_of.st) (defBody e_children_of.st) (defScope e_children_of.st) [] [] f _ := ⟨⟨oc, od, _, kV, doc, pm, an, cdv, ct, osl, rfl, l, c, .inl ⟨rfl, rfl⟩, .inl rfl⟩, k⟩
  ⟨⟨_, F⟩, ⟨rfl, rfl, rfl, by decide +kernel, rfl, by decide +kernel, by decide +kernel⟩, m, fun k => ⟨[], [], F.bindsN (ps := e_children_of.ps) fun _ _ _ _ _ _ us hl => match us, hl with | [_, _], _ => rfl, .nil, by rw [show e_children_of.dfl.drop k = [] from List.drop_nil]; exact .nil⟩⟩
theorem dk_elder_ring {K : PySem.W.Frag} {mg : Str → Option Value} {f : Addr} {oc : Value} {od an : Option Addr} {osl : Array (Option Value)} {kV doc pm cdv ct : Value} (l : K.lookup f = some ⟨oc, od, .func (PySem.W.fnOf "elder_ring" "elder_ring" (defArgs e_elder_ring.st) (defBody e_elder_ring.st) (defScope e_elder_ring.st) .none kV doc pm an cdv ct), osl⟩)
    (c : PySem.W.codeIn K cdv "elder_ring" = true) (k : PySem.W.keepIn K (.ref f) = true) (m : mg "elder_ring" = some (.ref f)) : DefK K mg e_elder_ring f (PySem.W.fnOf "elder_ring" "elder_ring" (defArgs e_elder_ring.st) (defBody e_elder_ring.st) (defScope e_elder_ring.st) .none kV doc pm an cdv ct) :=
  have F : FunD K e_elder_ring.x e_elder_ring.x (defArgs e_elder_ring.st) (defBody e_elder_ring.st) (defScope e_elder_ring.st) [] [] f _ := ⟨⟨oc, od, _, kV, doc, pm, an, cdv, ct, osl, rfl, l, c, .inl ⟨rfl, rfl⟩, .inl rfl⟩, k⟩
  ⟨⟨_, F⟩, ⟨rfl, rfl, rfl, by decide +kernel, rfl, by decide +kernel, by decide +kernel⟩, m, fun k => ⟨[], [], F.bindsN (ps := e_elder_ring.ps) fun _ _ _ _ _ _ us hl => match us, hl with | [_], _ => rfl, .nil, by rw [show e_elder_ring.dfl.drop k = [] from List.drop_nil]; exact .nil⟩⟩
theorem dk_ring_among {K : PySem.W.Frag} {mg : Str → Option Value} {f : Addr} {oc : Value} {od an : Option Addr} {osl : Array (Option Value)} {kV doc pm cdv ct : Value} (l : K.lookup f = some ⟨oc, od, .func (PySem.W.fnOf "ring_among" "ring_among" (defArgs e_ring_among.st) (defBody e_ring_among.st) (defScope e_ring_among.st) .none kV doc pm an cdv ct), osl⟩)
    (c : PySem.W.codeIn K cdv "ring_among" = true) (k : PySem.W.keepIn K (.ref f) = true) (m : mg "ring_among" = some (.ref f)) : DefK K mg e_ring_among f (PySem.W.fnOf "ring_among" "ring_among" (defArgs e_ring_among.st) (defBody e_ring_among.st) (defScope e_ring_among.st) .none kV doc pm an cdv ct) :=
  have F : FunD K e_ring_among.x e_ring_among.x (defArgs e_ring_among.st) (defBody e_ring_among.st) (defScope e_ring_among.st) [] [] f _ := ⟨⟨oc, od, _, kV, doc, pm, an, cdv, ct, osl, rfl, l, c, .inl ⟨rfl, rfl⟩, .inl rfl⟩, k⟩
  ⟨⟨_, F⟩, ⟨rfl, rfl, rfl, by decide +kernel, rfl, by decide +kernel, by decide +kernel⟩, m, fun k => ⟨[], [], F.bindsN (ps := e_ring_among.ps) fun _ _ _ _ _ _ us hl => match us, hl with | [_, _], _ => rfl, .nil, by rw [show e_ring_among.dfl.drop k = [] from List.drop_nil]; exact .nil⟩⟩
theorem dk__law_hand {K : PySem.W.Frag} {mg : Str → Option Value} {f : Addr} {oc : Value} {od an : Option Addr} {osl : Array (Option Value)} {kV doc pm cdv ct : Value} (l : K.lookup f = some ⟨oc, od, .func (PySem.W.fnOf "_law_hand" "_law_hand" (defArgs e__law_hand.st) (defBody e__law_hand.st) (defScope e__law_hand.st) .none kV doc pm an cdv ct), osl⟩)
    (c : PySem.W.codeIn K cdv "_law_hand" = true) (k : PySem.W.keepIn K (.ref f) = true) (m : mg "_law_hand" = some (.ref f)) : DefK K mg e__law_hand f (PySem.W.fnOf "_law_hand" "_law_hand" (defArgs e__law_hand.st) (defBody e__law_hand.st) (defScope e__law_hand.st) .none kV doc pm an cdv ct) :=
  have F : FunD K e__law_hand.x e__law_hand.x (defArgs e__law_hand.st) (defBody e__law_hand.st) (defScope e__law_hand.st) [] [] f _ := ⟨⟨oc, od, _, kV, doc, pm, an, cdv, ct, osl, rfl, l, c, .inl ⟨rfl, rfl⟩, .inl rfl⟩, k⟩
  ⟨⟨_, F⟩, ⟨rfl, rfl, rfl, by decide +kernel, rfl, by decide +kernel, by decide +kernel⟩, m, fun k => ⟨[], [], F.bindsN (ps := e__law_hand.ps) fun _ _ _ _ _ _ us hl => match us, hl with | [_, _], _ => rfl, .nil, by rw [show e__law_hand.dfl.drop k = [] from List.drop_nil]; exact .nil⟩⟩
theorem dk__law_take {K : PySem.W.Frag} {mg : Str → Option Value} {f : Addr} {oc : Value} {od an : Option Addr} {osl : Array (Option Value)} {kV doc pm cdv ct : Value} (l : K.lookup f = some ⟨oc, od, .func (PySem.W.fnOf "_law_take" "_law_take" (defArgs e__law_take.st) (defBody e__law_take.st) (defScope e__law_take.st) .none kV doc pm an cdv ct), osl⟩)
    (c : PySem.W.codeIn K cdv "_law_take" = true) (k : PySem.W.keepIn K (.ref f) = true) (m : mg "_law_take" = some (.ref f)) : DefK K mg e__law_take f (PySem.W.fnOf "_law_take" "_law_take" (defArgs e__law_take.st) (defBody e__law_take.st) (defScope e__law_take.st) .none kV doc pm an cdv ct) :=
  have F : FunD K e__law_take.x e__law_take.x (defArgs e__law_take.st) (defBody e__law_take.st) (defScope e__law_take.st) [] [] f _ := ⟨⟨oc, od, _, kV, doc, pm, an, cdv, ct, osl, rfl, l, c, .inl ⟨rfl, rfl⟩, .inl rfl⟩, k⟩
  ⟨⟨_, F⟩, ⟨rfl, rfl, rfl, by decide +kernel, rfl, by decide +kernel, by decide +kernel⟩, m, fun k => ⟨[], [], F.bindsN (ps := e__law_take.ps) fun _ _ _ _ _ _ us hl => match us, hl with | [_, _], _ => rfl, .nil, by rw [show e__law_take.dfl.drop k = [] from List.drop_nil]; exact .nil⟩⟩
theorem dk__law_pick {K : PySem.W.Frag} {mg : Str → Option Value} {f : Addr} {oc : Value} {od an : Option Addr} {osl : Array (Option Value)} {kV doc pm cdv ct : Value} (l : K.lookup f = some ⟨oc, od, .func (PySem.W.fnOf "_law_pick" "_law_pick" (defArgs e__law_pick.st) (defBody e__law_pick.st) (defScope e__law_pick.st) .none kV doc pm an cdv ct), osl⟩)
    (c : PySem.W.codeIn K cdv "_law_pick" = true) (k : PySem.W.keepIn K (.ref f) = true) (m : mg "_law_pick" = some (.ref f)) : DefK K mg e__law_pick f (PySem.W.fnOf "_law_pick" "_law_pick" (defArgs e__law_pick.st) (defBody e__law_pick.st) (defScope e__law_pick.st) .none kV doc pm an cdv ct) :=
  have F : FunD K e__law_pick.x e__law_pick.x (defArgs e__law_pick.st) (defBody e__law_pick.st) (defScope e__law_pick.st) [] [] f _ := ⟨⟨oc, od, _, kV, doc, pm, an, cdv, ct, osl, rfl, l, c, .inl ⟨rfl, rfl⟩, .inl rfl⟩, k⟩
  ⟨⟨_, F⟩, ⟨rfl, rfl, rfl, by decide +kernel, rfl, by decide +kernel, by decide +kernel⟩, m, fun k => ⟨[], [], F.bindsN (ps := e__law_pick.ps) fun _ _ _ _ _ _ us hl => match us, hl with | [_, _], _ => rfl, .nil, by rw [show e__law_pick.dfl.drop k = [] from List.drop_nil]; exact .nil⟩⟩
theorem dk__law_names {K : PySem.W.Frag} {mg : Str → Option Value} {f : Addr} {oc : Value} {od an : Option Addr} {osl : Array (Option Value)} {kV doc pm cdv ct : Value} (l : K.lookup f = some ⟨oc, od, .func (PySem.W.fnOf "_law_names" "_law_names" (defArgs e__law_names.st) (defBody e__law_names.st) (defScope e__law_names.st) .none kV doc pm an cdv ct), osl⟩)
    (c : PySem.W.codeIn K cdv "_law_names" = true) (k : PySem.W.keepIn K (.ref f) = true) (m : mg "_law_names" = some (.ref f)) : DefK K mg e__law_names f (PySem.W.fnOf "_law_names" "_law_names" (defArgs e__law_names.st) (defBody e__law_names.st) (defScope e__law_names.st) .none kV doc pm an cdv ct) :=
  have F : FunD K e__law_names.x e__law_names.x (defArgs e__law_names.st) (defBody e__law_names.st) (defScope e__law_names.st) [] [] f _ := ⟨⟨oc, od, _, kV, doc, pm, an, cdv, ct, osl, rfl, l, c, .inl ⟨rfl, rfl⟩, .inl rfl⟩, k⟩
  ⟨⟨_, F⟩, ⟨rfl, rfl, rfl, by decide +kernel, rfl, by decide +kernel, by decide +kernel⟩, m, fun k => ⟨[], [], F.bindsN (ps := e__law_names.ps) fun _ _ _ _ _ _ us hl => match us, hl with | [_, _], _ => rfl, .nil, by rw [show e__law_names.dfl.drop k = [] from List.drop_nil]; exact .nil⟩⟩
theorem dk__law_rows {K : PySem.W.Frag} {mg : Str → Option Value} {f : Addr} {oc : Value} {od an : Option Addr} {osl : Array (Option Value)} {kV doc pm cdv ct : Value} (l : K.lookup f = some ⟨oc, od, .func (PySem.W.fnOf "_law_rows" "_law_rows" (defArgs e__law_rows.st) (defBody e__law_rows.st) (defScope e__law_rows.st) .none kV doc pm an cdv ct), osl⟩)
    (c : PySem.W.codeIn K cdv "_law_rows" = true) (k : PySem.W.keepIn K (.ref f) = true) (m : mg "_law_rows" = some (.ref f)) : DefK K mg e__law_rows f (PySem.W.fnOf "_law_rows" "_law_rows" (defArgs e__law_rows.st) (defBody e__law_rows.st) (defScope e__law_rows.st) .none kV doc pm an cdv ct) :=
  have F : FunD K e__law_rows.x e__law_rows.x (defArgs e__law_rows.st) (defBody e__law_rows.st) (defScope e__law_rows.st) [] [] f _ := ⟨⟨oc, od, _, kV, doc, pm, an, cdv, ct, osl, rfl, l, c, .inl ⟨rfl, rfl⟩, .inl rfl⟩, k⟩
  ⟨⟨_, F⟩, ⟨rfl, rfl, rfl, by decide +kernel, rfl, by decide +kernel, by decide +kernel⟩, m, fun k => ⟨[], [], F.bindsN (ps := e__law_rows.ps) fun _ _ _ _ _ _ us hl => match us, hl with | [_, _, _], _ => rfl, .nil, by rw [show e__law_rows.dfl.drop k = [] from List.drop_nil]; exact .nil⟩⟩
theorem dk__law_ringed {K : PySem.W.Frag} {mg : Str → Option Value} {f : Addr} {oc : Value} {od an : Option Addr} {osl : Array (Option Value)} {kV doc pm cdv ct : Value} (l : K.lookup f = some ⟨oc, od, .func (PySem.W.fnOf "_law_ringed" "_law_ringed" (defArgs e__law_ringed.st) (defBody e__law_ringed.st) (defScope e__law_ringed.st) .none kV doc pm an cdv ct), osl⟩)
    (c : PySem.W.codeIn K cdv "_law_ringed" = true) (k : PySem.W.keepIn K (.ref f) = true) (m : mg "_law_ringed" = some (.ref f)) : DefK K mg e__law_ringed f (PySem.W.fnOf "_law_ringed" "_law_ringed" (defArgs e__law_ringed.st) (defBody e__law_ringed.st) (defScope e__law_ringed.st) .none kV doc pm an cdv ct) :=
  have F : FunD K e__law_ringed.x e__law_ringed.x (defArgs e__law_ringed.st) (defBody e__law_ringed.st) (defScope e__law_ringed.st) [] [] f _ := ⟨⟨oc, od, _, kV, doc, pm, an, cdv, ct, osl, rfl, l, c, .inl ⟨rfl, rfl⟩, .inl rfl⟩, k⟩
  ⟨⟨_, F⟩, ⟨rfl, rfl, rfl, by decide +kernel, rfl, by decide +kernel, by decide +kernel⟩, m, fun k => ⟨[], [], F.bindsN (ps := e__law_ringed.ps) fun _ _ _ _ _ _ us hl => match us, hl with | [_, _], _ => rfl, .nil, by rw [show e__law_ringed.dfl.drop k = [] from List.drop_nil]; exact .nil⟩⟩
theorem dk__law_peeled {K : PySem.W.Frag} {mg : Str → Option Value} {f : Addr} {oc : Value} {od an : Option Addr} {osl : Array (Option Value)} {kV doc pm cdv ct : Value} (l : K.lookup f = some ⟨oc, od, .func (PySem.W.fnOf "_law_peeled" "_law_peeled" (defArgs e__law_peeled.st) (defBody e__law_peeled.st) (defScope e__law_peeled.st) .none kV doc pm an cdv ct), osl⟩)
    (c : PySem.W.codeIn K cdv "_law_peeled" = true) (k : PySem.W.keepIn K (.ref f) = true) (m : mg "_law_peeled" = some (.ref f)) : DefK K mg e__law_peeled f (PySem.W.fnOf "_law_peeled" "_law_peeled" (defArgs e__law_peeled.st) (defBody e__law_peeled.st) (defScope e__law_peeled.st) .none kV doc pm an cdv ct) :=
  have F : FunD K e__law_peeled.x e__law_peeled.x (defArgs e__law_peeled.st) (defBody e__law_peeled.st) (defScope e__law_peeled.st) [] [] f _ := ⟨⟨oc, od, _, kV, doc, pm, an, cdv, ct, osl, rfl, l, c, .inl ⟨rfl, rfl⟩, .inl rfl⟩, k⟩
  ⟨⟨_, F⟩, ⟨rfl, rfl, rfl, by decide +kernel, rfl, by decide +kernel, by decide +kernel⟩, m, fun k => ⟨[], [], F.bindsN (ps := e__law_peeled.ps) fun _ _ _ _ _ _ us hl => match us, hl with | [_], _ => rfl, .nil, by rw [show e__law_peeled.dfl.drop k = [] from List.drop_nil]; exact .nil⟩⟩
theorem dk__law_right {K : PySem.W.Frag} {mg : Str → Option Value} {f : Addr} {oc : Value} {od an : Option Addr} {osl : Array (Option Value)} {kV doc pm cdv ct : Value} (l : K.lookup f = some ⟨oc, od, .func (PySem.W.fnOf "_law_right" "_law_right" (defArgs e__law_right.st) (defBody e__law_right.st) (defScope e__law_right.st) .none kV doc pm an cdv ct), osl⟩)
    (c : PySem.W.codeIn K cdv "_law_right" = true) (k : PySem.W.keepIn K (.ref f) = true) (m : mg "_law_right" = some (.ref f)) : DefK K mg e__law_right f (PySem.W.fnOf "_law_right" "_law_right" (defArgs e__law_right.st) (defBody e__law_right.st) (defScope e__law_right.st) .none kV doc pm an cdv ct) :=
  have F : FunD K e__law_right.x e__law_right.x (defArgs e__law_right.st) (defBody e__law_right.st) (defScope e__law_right.st) [] [] f _ := ⟨⟨oc, od, _, kV, doc, pm, an, cdv, ct, osl, rfl, l, c, .inl ⟨rfl, rfl⟩, .inl rfl⟩, k⟩
  ⟨⟨_, F⟩, ⟨rfl, rfl, rfl, by decide +kernel, rfl, by decide +kernel, by decide +kernel⟩, m, fun k => ⟨[], [], F.bindsN (ps := e__law_right.ps) fun _ _ _ _ _ _ us hl => match us, hl with | [_, _], _ => rfl, .nil, by rw [show e__law_right.dfl.drop k = [] from List.drop_nil]; exact .nil⟩⟩
theorem dk_law {K : PySem.W.Frag} {mg : Str → Option Value} {f : Addr} {oc : Value} {od an : Option Addr} {osl : Array (Option Value)} {kV doc pm cdv ct : Value} (l : K.lookup f = some ⟨oc, od, .func (PySem.W.fnOf "law" "law" (defArgs e_law.st) (defBody e_law.st) (defScope e_law.st) .none kV doc pm an cdv ct), osl⟩)
    (c : PySem.W.codeIn K cdv "law" = true) (k : PySem.W.keepIn K (.ref f) = true) (m : mg "law" = some (.ref f)) : DefK K mg e_law f (PySem.W.fnOf "law" "law" (defArgs e_law.st) (defBody e_law.st) (defScope e_law.st) .none kV doc pm an cdv ct) :=
  have F : FunD K e_law.x e_law.x (defArgs e_law.st) (defBody e_law.st) (defScope e_law.st) [] [] f _ := ⟨⟨oc, od, _, kV, doc, pm, an, cdv, ct, osl, rfl, l, c, .inl ⟨rfl, rfl⟩, .inl rfl⟩, k⟩
  ⟨⟨_, F⟩, ⟨rfl, rfl, rfl, by decide +kernel, rfl, by decide +kernel, by decide +kernel⟩, m, fun k => ⟨[], [], F.bindsN (ps := e_law.ps) fun _ _ _ _ _ _ us hl => match us, hl with | [_], _ => rfl, .nil, by rw [show e_law.dfl.drop k = [] from List.drop_nil]; exact .nil⟩⟩
theorem all_mk {l : PySem.W.OpenLaw} {w : World} {K : PySem.W.Frag} {h : Heap} {mg : Str → Option Value} {fa : Addr} (X : K.In h) (G : h.Ns mainGlobals mg) (hfa : mg "law" = some (.ref fa))
    {f0 f1 f2 f3 f4 f5 f6 f7 f8 f9 f10 f11 : Addr} {od0 an0 od1 an1 od2 an2 od3 an3 od4 an4 od5 an5 od6 an6 od7 an7 od8 an8 od9 an9 od10 an10 od11 an11 : Option Addr} {sl0 sl1 sl2 sl3 sl4 sl5 sl6 sl7 sl8 sl9 sl10 sl11 : Array (Option Value)} {oc0 kV0 dc0 pm0 cd0 ct0 oc1 kV1 dc1 pm1 cd1 ct1 oc2 kV2 dc2 pm2 cd2 ct2 oc3 kV3 dc3 pm3 cd3 ct3 oc4 kV4 dc4 pm4 cd4 ct4 oc5 kV5 dc5 pm5 cd5 ct5 oc6 kV6 dc6 pm6 cd6 ct6 oc7 kV7 dc7 pm7 cd7 ct7 oc8 kV8 dc8 pm8 cd8 ct8 oc9 kV9 dc9 pm9 cd9 ct9 oc10 kV10 dc10 pm10 cd10 ct10 oc11 kV11 dc11 pm11 cd11 ct11 : Value}
    (a0 : PySem.W.nsIn K mainGlobals "children_of" = some (some (.ref f0))) (l0 : K.lookup f0 = some ⟨oc0, od0, .func (PySem.W.fnOf "children_of" "children_of" (defArgs e_children_of.st) (defBody e_children_of.st) (defScope e_children_of.st) .none kV0 dc0 pm0 an0 cd0 ct0), sl0⟩) (c0 : PySem.W.codeIn K cd0 "children_of" = true) (k0 : PySem.W.keepIn K (.ref f0) = true)
    (a1 : PySem.W.nsIn K mainGlobals "elder_ring" = some (some (.ref f1))) (l1 : K.lookup f1 = some ⟨oc1, od1, .func (PySem.W.fnOf "elder_ring" "elder_ring" (defArgs e_elder_ring.st) (defBody e_elder_ring.st) (defScope e_elder_ring.st) .none kV1 dc1 pm1 an1 cd1 ct1), sl1⟩) (c1 : PySem.W.codeIn K cd1 "elder_ring" = true) (k1 : PySem.W.keepIn K (.ref f1) = true)
    (a2 : PySem.W.nsIn K mainGlobals "ring_among" = some (some (.ref f2))) (l2 : K.lookup f2 = some ⟨oc2, od2, .func (PySem.W.fnOf "ring_among" "ring_among" (defArgs e_ring_among.st) (defBody e_ring_among.st) (defScope e_ring_among.st) .none kV2 dc2 pm2 an2 cd2 ct2), sl2⟩) (c2 : PySem.W.codeIn K cd2 "ring_among" = true) (k2 : PySem.W.keepIn K (.ref f2) = true)
    (a3 : PySem.W.nsIn K mainGlobals "_law_hand" = some (some (.ref f3))) (l3 : K.lookup f3 = some ⟨oc3, od3, .func (PySem.W.fnOf "_law_hand" "_law_hand" (defArgs e__law_hand.st) (defBody e__law_hand.st) (defScope e__law_hand.st) .none kV3 dc3 pm3 an3 cd3 ct3), sl3⟩) (c3 : PySem.W.codeIn K cd3 "_law_hand" = true) (k3 : PySem.W.keepIn K (.ref f3) = true)
    (a4 : PySem.W.nsIn K mainGlobals "_law_take" = some (some (.ref f4))) (l4 : K.lookup f4 = some ⟨oc4, od4, .func (PySem.W.fnOf "_law_take" "_law_take" (defArgs e__law_take.st) (defBody e__law_take.st) (defScope e__law_take.st) .none kV4 dc4 pm4 an4 cd4 ct4), sl4⟩) (c4 : PySem.W.codeIn K cd4 "_law_take" = true) (k4 : PySem.W.keepIn K (.ref f4) = true)
    (a5 : PySem.W.nsIn K mainGlobals "_law_pick" = some (some (.ref f5))) (l5 : K.lookup f5 = some ⟨oc5, od5, .func (PySem.W.fnOf "_law_pick" "_law_pick" (defArgs e__law_pick.st) (defBody e__law_pick.st) (defScope e__law_pick.st) .none kV5 dc5 pm5 an5 cd5 ct5), sl5⟩) (c5 : PySem.W.codeIn K cd5 "_law_pick" = true) (k5 : PySem.W.keepIn K (.ref f5) = true)
    (a6 : PySem.W.nsIn K mainGlobals "_law_names" = some (some (.ref f6))) (l6 : K.lookup f6 = some ⟨oc6, od6, .func (PySem.W.fnOf "_law_names" "_law_names" (defArgs e__law_names.st) (defBody e__law_names.st) (defScope e__law_names.st) .none kV6 dc6 pm6 an6 cd6 ct6), sl6⟩) (c6 : PySem.W.codeIn K cd6 "_law_names" = true) (k6 : PySem.W.keepIn K (.ref f6) = true)
    (a7 : PySem.W.nsIn K mainGlobals "_law_rows" = some (some (.ref f7))) (l7 : K.lookup f7 = some ⟨oc7, od7, .func (PySem.W.fnOf "_law_rows" "_law_rows" (defArgs e__law_rows.st) (defBody e__law_rows.st) (defScope e__law_rows.st) .none kV7 dc7 pm7 an7 cd7 ct7), sl7⟩) (c7 : PySem.W.codeIn K cd7 "_law_rows" = true) (k7 : PySem.W.keepIn K (.ref f7) = true)
    (a8 : PySem.W.nsIn K mainGlobals "_law_ringed" = some (some (.ref f8))) (l8 : K.lookup f8 = some ⟨oc8, od8, .func (PySem.W.fnOf "_law_ringed" "_law_ringed" (defArgs e__law_ringed.st) (defBody e__law_ringed.st) (defScope e__law_ringed.st) .none kV8 dc8 pm8 an8 cd8 ct8), sl8⟩) (c8 : PySem.W.codeIn K cd8 "_law_ringed" = true) (k8 : PySem.W.keepIn K (.ref f8) = true)
    (a9 : PySem.W.nsIn K mainGlobals "_law_peeled" = some (some (.ref f9))) (l9 : K.lookup f9 = some ⟨oc9, od9, .func (PySem.W.fnOf "_law_peeled" "_law_peeled" (defArgs e__law_peeled.st) (defBody e__law_peeled.st) (defScope e__law_peeled.st) .none kV9 dc9 pm9 an9 cd9 ct9), sl9⟩) (c9 : PySem.W.codeIn K cd9 "_law_peeled" = true) (k9 : PySem.W.keepIn K (.ref f9) = true)
    (a10 : PySem.W.nsIn K mainGlobals "_law_right" = some (some (.ref f10))) (l10 : K.lookup f10 = some ⟨oc10, od10, .func (PySem.W.fnOf "_law_right" "_law_right" (defArgs e__law_right.st) (defBody e__law_right.st) (defScope e__law_right.st) .none kV10 dc10 pm10 an10 cd10 ct10), sl10⟩) (c10 : PySem.W.codeIn K cd10 "_law_right" = true) (k10 : PySem.W.keepIn K (.ref f10) = true)
    (a11 : PySem.W.nsIn K mainGlobals "law" = some (some (.ref f11))) (l11 : K.lookup f11 = some ⟨oc11, od11, .func (PySem.W.fnOf "law" "law" (defArgs e_law.st) (defBody e_law.st) (defScope e_law.st) .none kV11 dc11 pm11 an11 cd11 ct11), sl11⟩) (c11 : PySem.W.codeIn K cd11 "law" = true) (k11 : PySem.W.keepIn K (.ref f11) = true)
    (z0 : PySem.W.nsIn K mainGlobals "all" = some none)
    (z1 : PySem.W.nsIn K mainGlobals "any" = some none)
    (z2 : PySem.W.nsIn K mainGlobals "int" = some none)
    (z3 : PySem.W.nsIn K mainGlobals "isinstance" = some none)
    (z4 : PySem.W.nsIn K mainGlobals "len" = some none)
    (z5 : PySem.W.nsIn K mainGlobals "list" = some none)
    (z6 : PySem.W.nsIn K mainGlobals "max" = some none)
    (z7 : PySem.W.nsIn K mainGlobals "min" = some none)
    (z8 : PySem.W.nsIn K mainGlobals "range" = some none)
    (z9 : PySem.W.nsIn K mainGlobals "set" = some none)
    (z10 : PySem.W.nsIn K mainGlobals "sorted" = some none)
    (z11 : PySem.W.nsIn K mainGlobals "str" = some none)
    (z12 : PySem.W.nsIn K mainGlobals "tuple" = some none)
    (z13 : PySem.W.nsIn K mainGlobals "zip" = some none)
    : ∃ fd : FuncData, (∀ (s : Shared) (v : Value), BindsTo s fd ⟨[v], []⟩ [("_law_script", v)]) ∧ ∀ base : Heap, K.In base → base.Ns mainGlobals mg → LamsK K mg base tab → FnG l.prog w K mg base 16 fa fd ["_law_script"] (spD K (fnS tab means 4 11)) := by
  have T : Txt K mg tab bns cvs := by
    refine ⟨fun j e he => ?_, fun x hx => ?_, fun x d hd => ?_⟩
    · match j, he with
      | 0, he =>
        have he : some e_children_of = some e := he
        cases he
        exact ⟨f0, _, dk_children_of l0 c0 k0 (PySem.W.mg_of X G a0)⟩
      | 1, he =>
        have he : some e_elder_ring = some e := he
        cases he
        exact ⟨f1, _, dk_elder_ring l1 c1 k1 (PySem.W.mg_of X G a1)⟩
      | 2, he =>
        have he : some e_ring_among = some e := he
        cases he
        exact ⟨f2, _, dk_ring_among l2 c2 k2 (PySem.W.mg_of X G a2)⟩
      | 3, he =>
        have he : some e__law_hand = some e := he
        cases he
        exact ⟨f3, _, dk__law_hand l3 c3 k3 (PySem.W.mg_of X G a3)⟩
      | 4, he =>
        have he : some e__law_take = some e := he
        cases he
        exact ⟨f4, _, dk__law_take l4 c4 k4 (PySem.W.mg_of X G a4)⟩
      | 5, he =>
        have he : some e__law_pick = some e := he
        cases he
        exact ⟨f5, _, dk__law_pick l5 c5 k5 (PySem.W.mg_of X G a5)⟩
      | 6, he =>
        have he : some e__law_names = some e := he
        cases he
        exact ⟨f6, _, dk__law_names l6 c6 k6 (PySem.W.mg_of X G a6)⟩
      | 7, he =>
        have he : some e__law_rows = some e := he
        cases he
        exact ⟨f7, _, dk__law_rows l7 c7 k7 (PySem.W.mg_of X G a7)⟩
      | 8, he =>
        have he : some e__law_ringed = some e := he
        cases he
        exact ⟨f8, _, dk__law_ringed l8 c8 k8 (PySem.W.mg_of X G a8)⟩
      | 9, he =>
        have he : some e__law_peeled = some e := he
        cases he
        exact ⟨f9, _, dk__law_peeled l9 c9 k9 (PySem.W.mg_of X G a9)⟩
      | 10, he =>
        have he : some e__law_right = some e := he
        cases he
        exact ⟨f10, _, dk__law_right l10 c10 k10 (PySem.W.mg_of X G a10)⟩
      | 11, he =>
        have he : some e_law = some e := he
        cases he
        exact ⟨f11, _, dk_law l11 c11 k11 (PySem.W.mg_of X G a11)⟩
      | n + 12, he => exact absurd he (by simp [tab])
    · simp only [bns, List.mem_cons, List.not_mem_nil, or_false] at hx
      rcases hx with rfl | rfl | rfl | rfl | rfl | rfl | rfl | rfl | rfl | rfl | rfl | rfl | rfl | rfl
      · exact ⟨PySem.W.mg_none_of X G z0, by decide⟩
      · exact ⟨PySem.W.mg_none_of X G z1, by decide⟩
      · exact ⟨PySem.W.mg_none_of X G z2, by decide⟩
      · exact ⟨PySem.W.mg_none_of X G z3, by decide⟩
      · exact ⟨PySem.W.mg_none_of X G z4, by decide⟩
      · exact ⟨PySem.W.mg_none_of X G z5, by decide⟩
      · exact ⟨PySem.W.mg_none_of X G z6, by decide⟩
      · exact ⟨PySem.W.mg_none_of X G z7, by decide⟩
      · exact ⟨PySem.W.mg_none_of X G z8, by decide⟩
      · exact ⟨PySem.W.mg_none_of X G z9, by decide⟩
      · exact ⟨PySem.W.mg_none_of X G z10, by decide⟩
      · exact ⟨PySem.W.mg_none_of X G z11, by decide⟩
      · exact ⟨PySem.W.mg_none_of X G z12, by decide⟩
      · exact ⟨PySem.W.mg_none_of X G z13, by decide⟩
    · cases hd
  have e := hfa.symm.trans (PySem.W.mg_of X G a11)
  cases e
  exact ⟨_, fun s v => .of_eq rfl, fun base _ _ hl => prog_ok T hl hbs 4 11 e_law _ _ rfl (dk_law l11 c11 k11 (PySem.W.mg_of X G a11))⟩
theorem st_children_of (k : Nat) : fnS tab means (k + 1) 0 = runD 3 2 (m_children_of) := by kernel_rfl
abbrev F_children_of : Fn := runD 3 2 (m_children_of)
theorem fx_children_of (k : Nat) : fnS tab means (k + 1) 0 = F_children_of := by
  have e := st_children_of (k + 0)
  exact e
theorem st_ring_among (k : Nat) : fnS tab means (k + 1) 2 = runD 4 2 (m_ring_among (fnS tab means k 0)) := by kernel_rfl
abbrev F_ring_among : Fn := runD 4 2 (m_ring_among F_children_of)
theorem fx_ring_among (k : Nat) : fnS tab means (k + 2) 2 = F_ring_among := by
  have c_children_of : fnS tab means (k + 1) 0 = F_children_of := fx_children_of (k + 0)
  have e := st_ring_among (k + 1)
  rw [c_children_of] at e
  exact e
theorem st_elder_ring (k : Nat) : fnS tab means (k + 1) 1 = runD 6 1 (m_elder_ring (fnS tab means k 0) (fnS tab means k 2)) := by kernel_rfl
abbrev F_elder_ring : Fn := runD 6 1 (m_elder_ring F_children_of F_ring_among)
theorem fx_elder_ring (k : Nat) : fnS tab means (k + 3) 1 = F_elder_ring := by
  have c_children_of : fnS tab means (k + 2) 0 = F_children_of := fx_children_of (k + 1)
  have c_ring_among : fnS tab means (k + 2) 2 = F_ring_among := fx_ring_among (k + 0)
  have e := st_elder_ring (k + 2)
  rw [c_children_of, c_ring_among] at e
  exact e
theorem st__law_hand (k : Nat) : fnS tab means (k + 1) 3 = runD 3 2 (m__law_hand) := by kernel_rfl
abbrev F__law_hand : Fn := runD 3 2 (m__law_hand)
theorem fx__law_hand (k : Nat) : fnS tab means (k + 1) 3 = F__law_hand := by
  have e := st__law_hand (k + 0)
  exact e
theorem st__law_take (k : Nat) : fnS tab means (k + 1) 4 = runD 6 2 (m__law_take) := by kernel_rfl
abbrev F__law_take : Fn := runD 6 2 (m__law_take)
theorem fx__law_take (k : Nat) : fnS tab means (k + 1) 4 = F__law_take := by
  have e := st__law_take (k + 0)
  exact e
theorem st__law_pick (k : Nat) : fnS tab means (k + 1) 5 = runD 2 2 (m__law_pick (fnS tab means k 4)) := by kernel_rfl
abbrev F__law_pick : Fn := runD 2 2 (m__law_pick F__law_take)
theorem fx__law_pick (k : Nat) : fnS tab means (k + 2) 5 = F__law_pick := by
  have c__law_take : fnS tab means (k + 1) 4 = F__law_take := fx__law_take (k + 0)
  have e := st__law_pick (k + 1)
  rw [c__law_take] at e
  exact e
theorem st__law_names (k : Nat) : fnS tab means (k + 1) 6 = runD 9 2 (m__law_names (fnS tab means k 4) (fnS tab means k 5)) := by kernel_rfl
abbrev F__law_names : Fn := runD 9 2 (m__law_names F__law_take F__law_pick)
theorem fx__law_names (k : Nat) : fnS tab means (k + 3) 6 = F__law_names := by
  have c__law_take : fnS tab means (k + 2) 4 = F__law_take := fx__law_take (k + 1)
  have c__law_pick : fnS tab means (k + 2) 5 = F__law_pick := fx__law_pick (k + 0)
  have e := st__law_names (k + 2)
  rw [c__law_take, c__law_pick] at e
  exact e
theorem st__law_rows (k : Nat) : fnS tab means (k + 1) 7 = runD 9 3 (m__law_rows (fnS tab means k 5)) := by kernel_rfl
abbrev F__law_rows : Fn := runD 9 3 (m__law_rows F__law_pick)
theorem fx__law_rows (k : Nat) : fnS tab means (k + 3) 7 = F__law_rows := by
  have c__law_pick : fnS tab means (k + 2) 5 = F__law_pick := fx__law_pick (k + 0)
  have e := st__law_rows (k + 2)
  rw [c__law_pick] at e
  exact e
theorem st__law_ringed (k : Nat) : fnS tab means (k + 1) 8 = runD 9 2 (m__law_ringed (fnS tab means k 4) (fnS tab means k 5)) := by kernel_rfl
abbrev F__law_ringed : Fn := runD 9 2 (m__law_ringed F__law_take F__law_pick)
theorem fx__law_ringed (k : Nat) : fnS tab means (k + 3) 8 = F__law_ringed := by
  have c__law_take : fnS tab means (k + 2) 4 = F__law_take := fx__law_take (k + 1)
  have c__law_pick : fnS tab means (k + 2) 5 = F__law_pick := fx__law_pick (k + 0)
  have e := st__law_ringed (k + 2)
  rw [c__law_take, c__law_pick] at e
  exact e
theorem st__law_peeled (k : Nat) : fnS tab means (k + 1) 9 = runD 5 1 (m__law_peeled) := by kernel_rfl
abbrev F__law_peeled : Fn := runD 5 1 (m__law_peeled)
theorem fx__law_peeled (k : Nat) : fnS tab means (k + 1) 9 = F__law_peeled := by
  have e := st__law_peeled (k + 0)
  exact e
theorem st__law_right (k : Nat) : fnS tab means (k + 1) 10 = runD 5 2 (m__law_right (fnS tab means k 9)) := by kernel_rfl
abbrev F__law_right : Fn := runD 5 2 (m__law_right F__law_peeled)
theorem fx__law_right (k : Nat) : fnS tab means (k + 2) 10 = F__law_right := by
  have c__law_peeled : fnS tab means (k + 1) 9 = F__law_peeled := fx__law_peeled (k + 0)
  have e := st__law_right (k + 1)
  rw [c__law_peeled] at e
  exact e
theorem st_law (k : Nat) : fnS tab means (k + 1) 11 = runD 7 1 (m_law (fnS tab means k 3) (fnS tab means k 6) (fnS tab means k 5) (fnS tab means k 7) (fnS tab means k 4) (fnS tab means k 8) (fnS tab means k 1) (fnS tab means k 10)) := by kernel_rfl
abbrev F_law : Fn := runD 7 1 (m_law F__law_hand F__law_names F__law_pick F__law_rows F__law_take F__law_ringed F_elder_ring F__law_right)
theorem fx_law (k : Nat) : fnS tab means (k + 4) 11 = F_law := by
  have c__law_hand : fnS tab means (k + 3) 3 = F__law_hand := fx__law_hand (k + 2)
  have c__law_names : fnS tab means (k + 3) 6 = F__law_names := fx__law_names (k + 0)
  have c__law_pick : fnS tab means (k + 3) 5 = F__law_pick := fx__law_pick (k + 1)
  have c__law_rows : fnS tab means (k + 3) 7 = F__law_rows := fx__law_rows (k + 0)
  have c__law_take : fnS tab means (k + 3) 4 = F__law_take := fx__law_take (k + 2)
  have c__law_ringed : fnS tab means (k + 3) 8 = F__law_ringed := fx__law_ringed (k + 0)
  have c_elder_ring : fnS tab means (k + 3) 1 = F_elder_ring := fx_elder_ring (k + 0)
  have c__law_right : fnS tab means (k + 3) 10 = F__law_right := fx__law_right (k + 1)
  have e := st_law (k + 3)
  rw [c__law_hand, c__law_names, c__law_pick, c__law_rows, c__law_take, c__law_ringed, c_elder_ring, c__law_right] at e
  exact e
end Y
namespace Y
variable [TabC]
open PySem L2 TL
local macro_rules
  | `(tactic| fail_if_success skip) => `(tactic| with_reducible refine And.intro (Eq.refl true) ?_)
local macro_rules
  | `(tactic| fail_if_success skip) => `(tactic| with_reducible refine onB_ff (by with_unfolding_all rfl) ?_)
local macro_rules
  | `(tactic| fail_if_success skip) => `(tactic| with_reducible refine onB_tt (by with_unfolding_all rfl) ?_)
local macro_rules
  | `(tactic| fail_if_success skip) => `(tactic| with_reducible refine onBl_b (by with_unfolding_all rfl) ?_)
local macro_rules
  | `(tactic| fail_if_success skip) => `(tactic| with_reducible refine onS_i (by with_unfolding_all rfl) ?_)
local macro_rules
  | `(tactic| fail_if_success skip) => `(tactic| with_reducible refine onI_i (by with_unfolding_all rfl) ?_)
local macro_rules
  | `(tactic| fail_if_success skip) => `(tactic| with_reducible refine PTo_ic (by with_unfolding_all rfl) ?_)
local macro_rules
  | `(tactic| fail_if_success skip) => `(tactic| with_reducible refine PTo_iY (by with_unfolding_all rfl) (by first | decide | assumption | omega) ?_)
local macro_rules
  | `(tactic| fail_if_success skip) => `(tactic| with_reducible refine PTo_n (by with_unfolding_all rfl) ?_)
local macro_rules
  | `(tactic| fail_if_success skip) => `(tactic| with_reducible refine PTo_s (by with_unfolding_all rfl) ?_)
local macro_rules
  | `(tactic| fail_if_success skip) => `(tactic| with_reducible refine PTo_s ix1f ?_)
local macro_rules
  | `(tactic| fail_if_success skip) => `(tactic| with_reducible refine PTo_s ix0f ?_)
local macro_rules
  | `(tactic| fail_if_success skip) => `(tactic| with_reducible refine PTo_s ix2t ?_)
local macro_rules
  | `(tactic| fail_if_success skip) => `(tactic| with_reducible refine PTo_s ix1l ?_)
local macro_rules
  | `(tactic| fail_if_success skip) => `(tactic| with_reducible refine PTo_s ix0l ?_)
local macro_rules
  | `(tactic| fail_if_success skip) => `(tactic| with_reducible refine PTo_s ix1t ?_)
local macro_rules
  | `(tactic| fail_if_success skip) => `(tactic| with_reducible refine PTo_s ix0t ?_)
local macro_rules
  | `(tactic| fail_if_success skip) => `(tactic| with_reducible refine OTo_i (by with_unfolding_all rfl) ?_)
local macro_rules
  | `(tactic| fail_if_success skip) => `(tactic| with_reducible refine STo_iteY (by first | decide | (simp only [List.length_cons, List.length_nil, List.length_append, List.length_map]; decide) | assumption | omega) ?_)
local macro_rules
  | `(tactic| fail_if_success skip) => `(tactic| with_reducible refine To_iteA ?_)
local macro_rules
  | `(tactic| fail_if_success skip) => `(tactic| with_reducible refine To_iteY (by first | decide | (simp only [List.length_cons, List.length_nil, List.length_append, List.length_map]; decide) | assumption | omega) ?_)
local macro_rules
  | `(tactic| fail_if_success skip) => `(tactic| with_reducible refine (rtV_o (by with_unfolding_all rfl) ?_))
local macro_rules
  | `(tactic| fail_if_success skip) => `(tactic| with_reducible refine (rtV_v (by with_unfolding_all rfl) ?_))
local macro_rules
  | `(tactic| fail_if_success skip) => `(tactic| with_reducible refine (rdV_o (by with_unfolding_all rfl) ?_))
local macro_rules
  | `(tactic| fail_if_success skip) => `(tactic| with_reducible refine (rdV_v (by with_unfolding_all rfl) ?_))
local macro_rules
  | `(tactic| fail_if_success skip) => `(tactic| with_reducible refine To_bindc ?_)
local macro_rules
  | `(tactic| fail_if_success skip) => `(tactic| with_reducible refine To_cMupkY (by with_unfolding_all rfl) ?_)
local macro_rules
  | `(tactic| fail_if_success skip) => `(tactic| with_reducible refine muFin_i (by with_unfolding_all rfl) (by with_unfolding_all rfl) ?_)
local macro_rules
  | `(tactic| fail_if_success skip) => `(tactic| with_reducible refine stFin_i (by with_unfolding_all rfl) (by with_unfolding_all rfl) ?_)
local macro_rules
  | `(tactic| fail_if_success skip) => `(tactic| with_reducible refine isF_and ?_)
local macro_rules
  | `(tactic| fail_if_success skip) => `(tactic| with_reducible refine Step.go ?_)
local macro_rules
  | `(tactic| bv_omega) => `(tactic| repeat (fail_if_success skip))
def Hand (g : Gs) (h n : Nat) : Prop := ∃ a b c : Int, g[h]? = some (.box (.lst [.int a, .int b, .int c])) ∧ 0 ≤ b ∧ b < 2 ^ 62 ∧ 0 ≤ c ∧ c + n ≤ 2 ^ 40
theorem Hand.lt {g : Gs} {h n : Nat} (H : Hand g h n) : h < g.length := by
  obtain ⟨a, b, c, e, _⟩ := H
  exact (List.getElem?_eq_some_iff.mp e).1
theorem take_ok {g : Gs} {h n : Nat} {m : Int} (H : Hand g h (n + 1)) (h0 : 0 < m) (h1 : m < 1073741824) :
    (runD 6 2 m__law_take [.ref h, .int m] g).To fun d f l g' => ∃ r : Int, d = .int r ∧ f = false ∧ 0 ≤ r ∧ r < m ∧ Hand g' h n ∧ g'.length = g.length := by
  obtain ⟨a, b, c, e, b0, b1, c0, c1⟩ := H
  obtain ⟨hl, e2⟩ := List.getElem?_eq_some_iff.mp e
  simp [m__law_take, e, hl, e2]
  split
  · exact ⟨h0, ⟨h0, h1⟩, Int.emod_nonneg _ (by omega), Int.emod_lt_of_pos _ h0, a / m, b, c, by simp [hl], b0, b1, c0, by omega⟩
  · refine ⟨fits_l (by omega) (by omega), fits_l (by omega) (by omega), fits_l (by omega) (by omega), fits_l (by omega) (by omega), fits_l (by omega) (by omega), fits_l ?_ ?_, h0, Int.emod_nonneg _ (by omega), Int.emod_lt_of_pos _ h0, a, b, c + 1, by simp [hl], b0, b1, by omega, by omega⟩
    · have := Int.emod_nonneg (b * (48271 + 2 * (c + 1) * (c + 1) + 65537 * (c + 1))) (b := 2305843009213693921) (by omega)
      omega
    · have := Int.emod_lt_of_pos (b * (48271 + 2 * (c + 1) * (c + 1) + 65537 * (c + 1))) (b := 2305843009213693921) (by omega)
      omega
/-- what is picked of -/
def PickOf (d : D) : List D → Prop := fun xs => match d with
  | .lst ds => xs = ds
  | .tup ds => xs = ds
  | .ftup ds => xs = ds
  | .str z => xs = signs z ∧ z.length ≤ sizeLine
  | _ => False
theorem pick_ok {f : Fn} {g : Gs} {h n : Nat} {x : D} {xs : List D} (hf : ∀ m : Int, 0 < m → m < 1073741824 → (f [.ref h, .int m] g).To fun d f l g' => ∃ r : Int, d = .int r ∧ f = false ∧ 0 ≤ r ∧ r < m ∧ Hand g' h n ∧ g'.length = g.length)
    (hx : PickOf x xs) (h0 : xs ≠ []) (h1 : xs.length < 1073741824) :
    (runD 2 2 (m__law_pick f) [.ref h, x] g).To fun d f l g' => d ∈ xs ∧ f = false ∧ Hand g' h n ∧ g'.length = g.length := by
  have hp : 0 < xs.length := List.length_pos_iff.mpr h0
  have key := hf xs.length (by omega) (by omega)
  cases x <;> simp only [PickOf] at hx <;> try exact hx.elim
  · obtain ⟨hx, hz⟩ := hx
    subst hx
    rename_i z
    simp [m__law_pick, hz]
    have hlen : (signs z).length = z.length := by simp [signs]; rfl
    rw [hlen] at key
    refine key.imp fun d fl l g' ⟨r, e1, e2, r0, r1, H, gl⟩ => ?_
    subst e1 e2
    have hz2 : z.cps.toList.length = z.length := rfl
    obtain ⟨c, hc, e⟩ := atI_in (xs := z.cps.toList) r0 (by omega)
    simp [e, H, gl]
    exact ⟨hz, List.mem_map.mpr ⟨c, hc, rfl⟩⟩
  · subst hx
    simp [m__law_pick]
    refine key.imp fun d fl l g' ⟨r, e1, e2, r0, r1, H, gl⟩ => ?_
    subst e1 e2
    obtain ⟨c, hc, e⟩ := atI_in r0 r1
    simp [e, H, gl, hc]
  · subst hx
    simp [m__law_pick]
    refine key.imp fun d fl l g' ⟨r, e1, e2, r0, r1, H, gl⟩ => ?_
    subst e1 e2
    obtain ⟨c, hc, e⟩ := atI_in r0 r1
    simp [e, H, gl, hc]
  · subst hx
    simp [m__law_pick]
    refine key.imp fun d fl l g' ⟨r, e1, e2, r0, r1, H, gl⟩ => ?_
    subst e1 e2
    obtain ⟨c, hc, e⟩ := atI_in r0 r1
    simp [e, H, gl, hc]

def TakeOk (f : Fn) : Prop := ∀ (g : Gs) (h n : Nat) (m : Int), Hand g h (n + 1) → 0 < m → m < 1073741824 → (f [.ref h, .int m] g).To fun d f l g' => ∃ r : Int, d = .int r ∧ f = false ∧ 0 ≤ r ∧ r < m ∧ Hand g' h n ∧ g'.length = g.length
def PickOk (f : Fn) : Prop := ∀ (g : Gs) (h n : Nat) (x : D) (xs : List D), Hand g h (n + 1) → PickOf x xs → xs ≠ [] → xs.length < 1073741824 → (f [.ref h, x] g).To fun d f l g' => d ∈ xs ∧ f = false ∧ Hand g' h n ∧ g'.length = g.length
theorem TakeOk.go {f : Fn} (T : TakeOk f) {g : Gs} {h n : Nat} {m : Int} {K : D → Bool → Lc → Gs → Prop} (H : Hand g h (n + 1)) (h0 : 0 < m) (h1 : m < 1073741824)
    (k : ∀ (r : Int) (l : Lc) (g' : Gs), 0 ≤ r → r < m → Hand g' h n → g'.length = g.length → K (.int r) false l g') : (f [.ref h, .int m] g).To K :=
  (T g h n m H h0 h1).imp fun d f l g' ⟨r, e1, e2, r0, r1, H1, gl⟩ => by subst e1 e2; exact k r l g' r0 r1 H1 gl
theorem PickOk.go {f : Fn} (P : PickOk f) {g : Gs} {h n : Nat} {x : D} {K : D → Bool → Lc → Gs → Prop} (H : Hand g h (n + 1)) (xs : List D) (hx : PickOf x xs) (h0 : xs ≠ []) (h1 : xs.length < 1073741824)
    (k : ∀ (d : D) (l : Lc) (g' : Gs), d ∈ xs → Hand g' h n → g'.length = g.length → K d false l g') : (f [.ref h, x] g).To K :=
  (P g h n x xs H hx h0 h1).imp fun d f l g' ⟨e1, e2, H1, gl⟩ => by subst e2; exact k d l g' e1 H1 gl
theorem Hand.le {g : Gs} {h m n : Nat} (H : Hand g h n) (e : m ≤ n) : Hand g h m := by
  obtain ⟨a, b, c, e1, b0, b1, c0, c1⟩ := H
  exact ⟨a, b, c, e1, b0, b1, c0, by omega⟩
theorem at_ints {ns : List Int} {k : Int} (h0 : 0 ≤ k) (h1 : k < ns.length) : ∃ c : Int, atI (ns.map D.int) k = some (.int c) := by
  obtain ⟨x, hx, e⟩ := atI_in (xs := ns.map D.int) h0 (by simpa using h1)
  obtain ⟨c, _, rfl⟩ := List.mem_map.mp hx
  exact ⟨c, e⟩
theorem hand_ok {ns : List Int} {k : Int} (k0 : 0 ≤ k) (k1 : k < 2 ^ 20) {g : Gs} {K : D → Bool → Lc → Gs → Prop} (q : ∀ (l : Lc) (g' : Gs), Hand g' g.length (2 ^ 39) → K (.ref g.length) false l g') :
    (runD 3 2 m__law_hand [.clst (ns.map D.int), .int k] g).To K := by
  unfold m__law_hand
  refine To_runDi rfl ?_
  bv_omega
  refine cutM (fun l g' => g' = g ∧ ∃ c : Int, l = [some (.val (.clst (ns.map D.int))), some (.val (.int k)), some (.val (.int c))]) ?_ ?_
  · refine To_cIfS.mpr ?_
    bv_omega
    refine onB_dec (fun hc => ?_) (fun hc => ?_)
    · obtain ⟨c, ec⟩ := at_ints k0 (by simpa using hc)
      bv_omega
      have e : dIx (.clst (ns.map D.int)) (.int k) = .sh (.int c) := by rw [dIx_cl, ec]
      refine PTo_s e ?_
      bv_omega
      exact ⟨rfl, c, rfl⟩
    · bv_omega
      exact ⟨rfl, 0, rfl⟩
  · rintro l g' ⟨rfl, c, rfl⟩
    bv_omega
    refine ⟨fits_r (by split <;> omega) (by split <;> omega), ?_⟩
    have h7 : fitsMul 7919 k = true := fits_l (by decide) (by decide)
    bv_omega
    refine q _ _ ⟨_, _, _, List.getElem?_concat_length .., ?_, ?_, by decide, by decide⟩
    · have := Int.emod_nonneg c (b := 2305843009213693951) (by decide)
      omega
    · have := Int.emod_lt_of_pos c (b := 2305843009213693951) (by decide)
      omega
theorem takeOk : TakeOk (runD 6 2 m__law_take) := fun g h n m H h0 h1 => take_ok H h0 h1
theorem pickOk : PickOk (runD 2 2 (m__law_pick (runD 6 2 m__law_take))) := fun g h n x xs H hx h0 h1 => pick_ok (fun m m0 m1 => take_ok H m0 m1) hx h0 h1
end Y
namespace Y
variable [TabC]
open PySem L2 TL
local macro_rules
  | `(tactic| fail_if_success skip) => `(tactic| with_reducible refine And.intro (Eq.refl true) ?_)
local macro_rules
  | `(tactic| fail_if_success skip) => `(tactic| with_reducible refine onB_ff (by with_unfolding_all rfl) ?_)
local macro_rules
  | `(tactic| fail_if_success skip) => `(tactic| with_reducible refine onB_tt (by with_unfolding_all rfl) ?_)
local macro_rules
  | `(tactic| fail_if_success skip) => `(tactic| with_reducible refine onBl_b (by with_unfolding_all rfl) ?_)
local macro_rules
  | `(tactic| fail_if_success skip) => `(tactic| with_reducible refine onS_i (by with_unfolding_all rfl) ?_)
local macro_rules
  | `(tactic| fail_if_success skip) => `(tactic| with_reducible refine onI_i (by with_unfolding_all rfl) ?_)
local macro_rules
  | `(tactic| fail_if_success skip) => `(tactic| with_reducible refine PTo_ic (by with_unfolding_all rfl) ?_)
local macro_rules
  | `(tactic| fail_if_success skip) => `(tactic| with_reducible refine PTo_iY (by with_unfolding_all rfl) (by first | decide | assumption | omega) ?_)
local macro_rules
  | `(tactic| fail_if_success skip) => `(tactic| with_reducible refine PTo_n (by with_unfolding_all rfl) ?_)
local macro_rules
  | `(tactic| fail_if_success skip) => `(tactic| with_reducible refine PTo_s (by with_unfolding_all rfl) ?_)
local macro_rules
  | `(tactic| fail_if_success skip) => `(tactic| with_reducible refine PTo_s ix1f ?_)
local macro_rules
  | `(tactic| fail_if_success skip) => `(tactic| with_reducible refine PTo_s ix0f ?_)
local macro_rules
  | `(tactic| fail_if_success skip) => `(tactic| with_reducible refine PTo_s ix2t ?_)
local macro_rules
  | `(tactic| fail_if_success skip) => `(tactic| with_reducible refine PTo_s ix1l ?_)
local macro_rules
  | `(tactic| fail_if_success skip) => `(tactic| with_reducible refine PTo_s ix0l ?_)
local macro_rules
  | `(tactic| fail_if_success skip) => `(tactic| with_reducible refine PTo_s ix1t ?_)
local macro_rules
  | `(tactic| fail_if_success skip) => `(tactic| with_reducible refine PTo_s ix0t ?_)
local macro_rules
  | `(tactic| fail_if_success skip) => `(tactic| with_reducible refine OTo_i (by with_unfolding_all rfl) ?_)
local macro_rules
  | `(tactic| fail_if_success skip) => `(tactic| with_reducible refine STo_iteY (by first | decide | (simp only [List.length_cons, List.length_nil, List.length_append, List.length_map]; decide) | assumption | omega) ?_)
local macro_rules
  | `(tactic| fail_if_success skip) => `(tactic| with_reducible refine To_iteA ?_)
local macro_rules
  | `(tactic| fail_if_success skip) => `(tactic| with_reducible refine To_iteY (by first | decide | (simp only [List.length_cons, List.length_nil, List.length_append, List.length_map]; decide) | assumption | omega) ?_)
local macro_rules
  | `(tactic| fail_if_success skip) => `(tactic| with_reducible refine (rtV_o (by with_unfolding_all rfl) ?_))
local macro_rules
  | `(tactic| fail_if_success skip) => `(tactic| with_reducible refine (rtV_v (by with_unfolding_all rfl) ?_))
local macro_rules
  | `(tactic| fail_if_success skip) => `(tactic| with_reducible refine (rdV_o (by with_unfolding_all rfl) ?_))
local macro_rules
  | `(tactic| fail_if_success skip) => `(tactic| with_reducible refine (rdV_v (by with_unfolding_all rfl) ?_))
local macro_rules
  | `(tactic| fail_if_success skip) => `(tactic| with_reducible refine To_bindc ?_)
local macro_rules
  | `(tactic| fail_if_success skip) => `(tactic| with_reducible refine To_cMupkY (by with_unfolding_all rfl) ?_)
local macro_rules
  | `(tactic| fail_if_success skip) => `(tactic| with_reducible refine muFin_i (by with_unfolding_all rfl) (by with_unfolding_all rfl) ?_)
local macro_rules
  | `(tactic| fail_if_success skip) => `(tactic| with_reducible refine stFin_i (by with_unfolding_all rfl) (by with_unfolding_all rfl) ?_)
local macro_rules
  | `(tactic| fail_if_success skip) => `(tactic| with_reducible refine isF_and ?_)
local macro_rules
  | `(tactic| fail_if_success skip) => `(tactic| with_reducible refine Step.go ?_)
local macro_rules
  | `(tactic| bv_omega) => `(tactic| repeat (fail_if_success skip))
def shB (p : D → Bool) : PR → Bool
  | .sh d => p d
  | _ => false
theorem shB_To {P : D → Bool → Prop} {o : PR} {p : D → Bool} (h : shB p o = true) (hp : ∀ d, p d = true → P d false) : o.To P := by
  cases o with
  | sh d => exact PTo_sh.mpr (hp d h)
  | _ => cases h
def isS : D → Bool
  | .str _ => true
  | _ => false
theorem strs_of {xs : List D} {d : D} (hd : d ∈ xs) (h : xs.all isS = true) : ∃ z, d = .str z := by
  have := List.all_eq_true.mp h d hd
  cases d with
  | str z => exact ⟨z, rfl⟩
  | _ => cases this
theorem two_of {xs ys : List D} {f : D → D → PR} {p : D → Bool} (h : (xs.all fun x => ys.all fun y => shB p (f x y)) = true) {d e : D} (hd : d ∈ xs) (he : e ∈ ys) : shB p (f d e) = true :=
  List.all_eq_true.mp (List.all_eq_true.mp h d hd) e he
theorem join_signs {z0 : Str} {acc : List D} (h : ∀ d ∈ acc, d ∈ signs z0) (hl : acc.length ≤ 1000) : ∃ z, dJoin "" (.lst acc) = .sh (.str z) ∧ z.length = acc.length ∧ ∀ c ∈ tl z, c ∈ tl z0 := by
  have key : ∀ acc : List D, (∀ d ∈ acc, d ∈ signs z0) → ∃ cs : List Nat, strsOf acc = some (cs.map fun c => (⟨#[c]⟩ : Str)) ∧ cs.length = acc.length ∧ ∀ c ∈ cs, c ∈ tl z0 := by
    intro acc
    induction acc with
    | nil => exact fun _ => ⟨[], rfl, rfl, by simp⟩
    | cons d r ih =>
      intro h
      obtain ⟨cs, e1, e2, e3⟩ := ih fun d hd => h d (List.mem_cons_of_mem _ hd)
      obtain ⟨c, hc, rfl⟩ := List.mem_map.mp (h d List.mem_cons_self)
      refine ⟨c :: cs, by simp [strsOf, e1], by simp [e2], fun x hx => ?_⟩
      rcases List.mem_cons.mp hx with rfl | hx
      · exact hc
      · exact e3 x hx
  obtain ⟨cs, e1, e2, e3⟩ := key acc h
  have hj : tl (Txt.join "" (cs.map fun c => (⟨#[c]⟩ : Str))) = cs := by
    show tl (Builtin.Str.glued "" _) = cs
    rw [StrLaws.glued_eq_join, tl_join]
    have : ∀ cs : List Nat, joinL [] ((cs.map fun c => (⟨#[c]⟩ : Str)).map tl) = cs := by
      intro cs
      induction cs with
      | nil => rfl
      | cons c r ih => cases r with
        | nil => rfl
        | cons c' r =>
          show [c] ++ ([] ++ joinL [] (((c' :: r).map fun c => (⟨#[c]⟩ : Str)).map tl)) = c :: c' :: r
          rw [ih]; rfl
    exact this cs
  refine ⟨Txt.join "" (cs.map fun c => (⟨#[c]⟩ : Str)), ?_, ?_, ?_⟩
  · simp only [dJoin, e1]
    rw [if_pos]
    have : ∀ cs : List Nat, (((cs.map fun c => (⟨#[c]⟩ : Str)).map (·.length)).sum) = cs.length := by
      intro cs
      induction cs with
      | nil => rfl
      | cons c r ih => simp [Str.length] at ih ⊢; omega
    rw [this]
    simp only [List.length_map]
    have e0 : Str.length "" = 0 := by decide
    rw [e0]; omega
  · rw [len_tl, hj, e2]
  · rw [hj]; exact e3
theorem tl_cutS {z : Str} {lo hi : Option Int} {c : Nat} (h : c ∈ tl (cutS z lo hi)) : c ∈ tl z := List.mem_of_mem_drop (List.mem_of_mem_take h)
theorem cut_len_le {z : Str} {lo hi : Option Int} : (cutS z lo hi).length ≤ z.length := by
  rw [len_tl, len_tl]
  show ((tl z).drop _ |>.take _).length ≤ _
  simp only [List.length_take, List.length_drop]; omega
theorem mulS_len {z : Str} (h : 1 ≤ z.length) : (mulS z 9).length = 9 * z.length := by
  have e : (z.length == 0) = false := by simpa using by omega
  unfold mulS
  simp only [e]
  show Str.length ⟨(List.replicate 9 z.cps).foldl (· ++ ·) #[]⟩ = _
  show ((List.replicate 9 z.cps).foldl (· ++ ·) #[]).size = 9 * z.cps.size
  rw [size_foldl_rep]; simp
theorem cut_len9 {z : Str} (h : 9 ≤ z.length) : (cutS z none (some 9)).length = 9 := by
  rw [len_tl]
  show ((tl z).drop 0 |>.take (HT.sIx z.length z.length (some ((9 : Nat) : Int)) - 0)).length = 9
  rw [HT.sIx_nat]
  simp only [List.length_take, List.drop_zero, ← len_tl]; omega
theorem len_app (x y : Str) : (x ++ y).length = x.length + y.length := by
  rw [len_tl, len_tl, len_tl, tl_append, List.length_append]
end Y
namespace Y
variable [TabC]
open PySem L2 TL
local macro_rules
  | `(tactic| fail_if_success skip) => `(tactic| with_reducible refine And.intro (Eq.refl true) ?_)
local macro_rules
  | `(tactic| fail_if_success skip) => `(tactic| with_reducible refine onB_ff (by with_unfolding_all rfl) ?_)
local macro_rules
  | `(tactic| fail_if_success skip) => `(tactic| with_reducible refine onB_tt (by with_unfolding_all rfl) ?_)
local macro_rules
  | `(tactic| fail_if_success skip) => `(tactic| with_reducible refine onBl_b (by with_unfolding_all rfl) ?_)
local macro_rules
  | `(tactic| fail_if_success skip) => `(tactic| with_reducible refine onS_i (by with_unfolding_all rfl) ?_)
local macro_rules
  | `(tactic| fail_if_success skip) => `(tactic| with_reducible refine onI_i (by with_unfolding_all rfl) ?_)
local macro_rules
  | `(tactic| fail_if_success skip) => `(tactic| with_reducible refine PTo_ic (by with_unfolding_all rfl) ?_)
local macro_rules
  | `(tactic| fail_if_success skip) => `(tactic| with_reducible refine PTo_iY (by with_unfolding_all rfl) (by first | decide | assumption | omega) ?_)
local macro_rules
  | `(tactic| fail_if_success skip) => `(tactic| with_reducible refine PTo_n (by with_unfolding_all rfl) ?_)
local macro_rules
  | `(tactic| fail_if_success skip) => `(tactic| with_reducible refine PTo_s (by with_unfolding_all rfl) ?_)
local macro_rules
  | `(tactic| fail_if_success skip) => `(tactic| with_reducible refine PTo_s ix1f ?_)
local macro_rules
  | `(tactic| fail_if_success skip) => `(tactic| with_reducible refine PTo_s ix0f ?_)
local macro_rules
  | `(tactic| fail_if_success skip) => `(tactic| with_reducible refine PTo_s ix2t ?_)
local macro_rules
  | `(tactic| fail_if_success skip) => `(tactic| with_reducible refine PTo_s ix1l ?_)
local macro_rules
  | `(tactic| fail_if_success skip) => `(tactic| with_reducible refine PTo_s ix0l ?_)
local macro_rules
  | `(tactic| fail_if_success skip) => `(tactic| with_reducible refine PTo_s ix1t ?_)
local macro_rules
  | `(tactic| fail_if_success skip) => `(tactic| with_reducible refine PTo_s ix0t ?_)
local macro_rules
  | `(tactic| fail_if_success skip) => `(tactic| with_reducible refine OTo_i (by with_unfolding_all rfl) ?_)
local macro_rules
  | `(tactic| fail_if_success skip) => `(tactic| with_reducible refine STo_iteY (by first | decide | (simp only [List.length_cons, List.length_nil, List.length_append, List.length_map]; decide) | assumption | omega) ?_)
local macro_rules
  | `(tactic| fail_if_success skip) => `(tactic| with_reducible refine To_iteA ?_)
local macro_rules
  | `(tactic| fail_if_success skip) => `(tactic| with_reducible refine To_iteY (by first | decide | (simp only [List.length_cons, List.length_nil, List.length_append, List.length_map]; decide) | assumption | omega) ?_)
local macro_rules
  | `(tactic| fail_if_success skip) => `(tactic| with_reducible refine (rtV_o (by with_unfolding_all rfl) ?_))
local macro_rules
  | `(tactic| fail_if_success skip) => `(tactic| with_reducible refine (rtV_v (by with_unfolding_all rfl) ?_))
local macro_rules
  | `(tactic| fail_if_success skip) => `(tactic| with_reducible refine (rdV_o (by with_unfolding_all rfl) ?_))
local macro_rules
  | `(tactic| fail_if_success skip) => `(tactic| with_reducible refine (rdV_v (by with_unfolding_all rfl) ?_))
local macro_rules
  | `(tactic| fail_if_success skip) => `(tactic| with_reducible refine To_bindc ?_)
local macro_rules
  | `(tactic| fail_if_success skip) => `(tactic| with_reducible refine To_cMupkY (by with_unfolding_all rfl) ?_)
local macro_rules
  | `(tactic| fail_if_success skip) => `(tactic| with_reducible refine muFin_i (by with_unfolding_all rfl) (by with_unfolding_all rfl) ?_)
local macro_rules
  | `(tactic| fail_if_success skip) => `(tactic| with_reducible refine stFin_i (by with_unfolding_all rfl) (by with_unfolding_all rfl) ?_)
local macro_rules
  | `(tactic| fail_if_success skip) => `(tactic| with_reducible refine isF_and ?_)
local macro_rules
  | `(tactic| fail_if_success skip) => `(tactic| with_reducible refine Step.go ?_)
local macro_rules
  | `(tactic| bv_omega) => `(tactic| repeat (fail_if_success skip))
def letters : List Nat := ("abcdefghijklmnopqrstuvwxyz" : Str).cps.toList
def kept : List D := [.str "if", .str "and", .str "not", .str "never"]
def nmS (z : Str) : Bool := decide (1 ≤ z.length) && decide (z.length ≤ 8) && z.cps.toList.all (fun c => decide (c ∈ letters)) && !decide (D.str z ∈ kept)
def nmB : D → Bool
  | .str z => nmS z
  | _ => false
def notStr : D → Bool
  | .str _ => false
  | .ref _ => false
  | .set _ => false
  | .dcu _ => false
  | .ctup _ => false
  | .clst _ => false
  | .ftup _ => false
  | _ => true
theorem all_letters {z : Str} : z.cps.toList.all (fun c => decide (c ∈ letters)) = (signs z).all fun d => match d with
    | .str s => s.cps.toList.all (fun c => decide (c ∈ letters))
    | _ => false := by
  simp [signs, List.all_map, Function.comp_def]
theorem nm_parts {z : Str} (h : nmS z = true) : 1 ≤ z.length ∧ z.length ≤ 8 ∧ ∀ c ∈ tl z, c ∈ letters := by
  unfold nmS at h
  simp only [Bool.and_eq_true, decide_eq_true_eq, List.all_eq_true] at h
  exact ⟨h.1.1.1, h.1.1.2, h.1.2⟩
theorem letters_small : ∀ c ∈ letters, c < 1114112 := by decide +kernel
theorem strOk_of {z : Str} (h : ∀ c ∈ tl z, c < 1114112) : PyData.strOk z = true :=
  (Array.all_eq_true_iff_forall_mem).mpr fun c hc => decide_eq_true (h c (by simpa using hc))
end Y
namespace Y
variable [TabC]
open PySem L2 TL
local macro_rules
  | `(tactic| fail_if_success skip) => `(tactic| with_reducible refine And.intro (Eq.refl true) ?_)
local macro_rules
  | `(tactic| fail_if_success skip) => `(tactic| with_reducible refine onB_ff (by with_unfolding_all rfl) ?_)
local macro_rules
  | `(tactic| fail_if_success skip) => `(tactic| with_reducible refine onB_tt (by with_unfolding_all rfl) ?_)
local macro_rules
  | `(tactic| fail_if_success skip) => `(tactic| with_reducible refine onBl_b (by with_unfolding_all rfl) ?_)
local macro_rules
  | `(tactic| fail_if_success skip) => `(tactic| with_reducible refine onS_i (by with_unfolding_all rfl) ?_)
local macro_rules
  | `(tactic| fail_if_success skip) => `(tactic| with_reducible refine onI_i (by with_unfolding_all rfl) ?_)
local macro_rules
  | `(tactic| fail_if_success skip) => `(tactic| with_reducible refine PTo_ic (by with_unfolding_all rfl) ?_)
local macro_rules
  | `(tactic| fail_if_success skip) => `(tactic| with_reducible refine PTo_iY (by with_unfolding_all rfl) (by first | decide | assumption | omega) ?_)
local macro_rules
  | `(tactic| fail_if_success skip) => `(tactic| with_reducible refine PTo_n (by with_unfolding_all rfl) ?_)
local macro_rules
  | `(tactic| fail_if_success skip) => `(tactic| with_reducible refine PTo_s (by with_unfolding_all rfl) ?_)
local macro_rules
  | `(tactic| fail_if_success skip) => `(tactic| with_reducible refine PTo_s ix1f ?_)
local macro_rules
  | `(tactic| fail_if_success skip) => `(tactic| with_reducible refine PTo_s ix0f ?_)
local macro_rules
  | `(tactic| fail_if_success skip) => `(tactic| with_reducible refine PTo_s ix2t ?_)
local macro_rules
  | `(tactic| fail_if_success skip) => `(tactic| with_reducible refine PTo_s ix1l ?_)
local macro_rules
  | `(tactic| fail_if_success skip) => `(tactic| with_reducible refine PTo_s ix0l ?_)
local macro_rules
  | `(tactic| fail_if_success skip) => `(tactic| with_reducible refine PTo_s ix1t ?_)
local macro_rules
  | `(tactic| fail_if_success skip) => `(tactic| with_reducible refine PTo_s ix0t ?_)
local macro_rules
  | `(tactic| fail_if_success skip) => `(tactic| with_reducible refine OTo_i (by with_unfolding_all rfl) ?_)
local macro_rules
  | `(tactic| fail_if_success skip) => `(tactic| with_reducible refine STo_iteY (by first | decide | (simp only [List.length_cons, List.length_nil, List.length_append, List.length_map]; decide) | assumption | omega) ?_)
local macro_rules
  | `(tactic| fail_if_success skip) => `(tactic| with_reducible refine To_iteA ?_)
local macro_rules
  | `(tactic| fail_if_success skip) => `(tactic| with_reducible refine To_iteY (by first | decide | (simp only [List.length_cons, List.length_nil, List.length_append, List.length_map]; decide) | assumption | omega) ?_)
local macro_rules
  | `(tactic| fail_if_success skip) => `(tactic| with_reducible refine (rtV_o (by with_unfolding_all rfl) ?_))
local macro_rules
  | `(tactic| fail_if_success skip) => `(tactic| with_reducible refine (rtV_v (by with_unfolding_all rfl) ?_))
local macro_rules
  | `(tactic| fail_if_success skip) => `(tactic| with_reducible refine (rdV_o (by with_unfolding_all rfl) ?_))
local macro_rules
  | `(tactic| fail_if_success skip) => `(tactic| with_reducible refine (rdV_v (by with_unfolding_all rfl) ?_))
local macro_rules
  | `(tactic| fail_if_success skip) => `(tactic| with_reducible refine To_bindc ?_)
local macro_rules
  | `(tactic| fail_if_success skip) => `(tactic| with_reducible refine To_cMupkY (by with_unfolding_all rfl) ?_)
local macro_rules
  | `(tactic| fail_if_success skip) => `(tactic| with_reducible refine muFin_i (by with_unfolding_all rfl) (by with_unfolding_all rfl) ?_)
local macro_rules
  | `(tactic| fail_if_success skip) => `(tactic| with_reducible refine stFin_i (by with_unfolding_all rfl) (by with_unfolding_all rfl) ?_)
local macro_rules
  | `(tactic| fail_if_success skip) => `(tactic| with_reducible refine isF_and ?_)
local macro_rules
  | `(tactic| fail_if_success skip) => `(tactic| with_reducible refine Step.go ?_)
local macro_rules
  | `(tactic| bv_omega) => `(tactic| repeat (fail_if_success skip))
mutual
/-- data without boxes, signs in range -/
def D.clean : D → Bool
  | .str z => PyData.strOk z && decide (z.length ≤ sizeLine)
  | .tup ds => D.cleanL ds
  | .lst ds => D.cleanL ds
  | .dct ps => D.cleanP ps
  | .ref _ => false
  | .set _ => false
  | .dcu _ => false
  | .ctup _ => false
  | .clst _ => false
  | .ftup _ => false
  | _ => true
def D.cleanL : List D → Bool
  | [] => true
  | d :: ds => D.clean d && D.cleanL ds
def D.cleanP : List (D × D) → Bool
  | [] => true
  | (a, b) :: ds => D.clean a && D.clean b && D.cleanP ds
end
theorem cleanL_mem : ∀ {ds : List D} {d : D}, D.cleanL ds = true → d ∈ ds → d.clean = true
  | e :: ds, d, h, hd => by
    simp only [D.cleanL, Bool.and_eq_true] at h
    rcases List.mem_cons.mp hd with rfl | hd
    · exact h.1
    · exact cleanL_mem h.2 hd
theorem cleanL_of : ∀ {ds : List D}, (∀ d ∈ ds, d.clean = true) → D.cleanL ds = true
  | [], _ => rfl
  | e :: ds, h => by
    simp only [D.cleanL, Bool.and_eq_true]
    exact ⟨h e List.mem_cons_self, cleanL_of fun d hd => h d (List.mem_cons_of_mem _ hd)⟩
theorem clean_str {z : Str} (h : (D.str z).clean = true) : PyData.strOk z = true ∧ z.length ≤ sizeLine := by
  simpa [D.clean] using h
theorem clean_cont {d : D} (h : d.clean = true) (g : Gs) : D.cont g d = d := by
  cases d <;> first | rfl | cases h
def strB : D → Bool
  | .str _ => true
  | _ => false
def intB : D → Bool
  | .int _ => true
  | .bl _ => true
  | _ => false
def boolB : D → Bool
  | .bl _ => true
  | _ => false
def tupB : D → Bool
  | .tup _ => true
  | _ => false
theorem inst_str {d : D} (h : d.clean = true) (g : Gs) : isInst "str" (D.cont g d) = .sh (.bl (strB d)) := by
  rw [clean_cont h]; cases d <;> first | rfl | cases h
theorem inst_int {d : D} (h : d.clean = true) (g : Gs) : isInst "int" (D.cont g d) = .sh (.bl (intB d)) := by
  rw [clean_cont h]; cases d <;> first | rfl | cases h
theorem inst_bool {d : D} (h : d.clean = true) (g : Gs) : isInst "bool" (D.cont g d) = .sh (.bl (boolB d)) := by
  rw [clean_cont h]; cases d <;> first | rfl | cases h
theorem inst_tup {d : D} (h : d.clean = true) (g : Gs) : isInst "tuple" (D.cont g d) = .sh (.bl (tupB d)) := by
  rw [clean_cont h]; cases d <;> first | rfl | cases h
theorem szl {k n : Nat} (h : k + n ≤ 1000) : k + n ≤ sizeLine := Nat.le_trans h (by decide)
def nameB : D → Bool
  | .str z => nmS z
  | _ => false
def wholeB : D → Bool
  | .int _ => true
  | _ => false
/-- a def that tells p of clean data -/
def Tells (f : Fn) (p : D → Bool) : Prop := ∀ (d : D), d.clean = true → ∀ (g : Gs) (K : D → Bool → Lc → Gs → Prop), (∀ l, K (.bl (p d)) false l g) → (f [d] g).To K
def named : List D := [.str "by", .str "from", .str "to", .str "mark"]
def plainB : D → Bool
  | .tup [.str s, x] => if D.str s ∈ named then nameB x else decide (s = "long") && match x with
    | .int i => decide (0 ≤ i) && decide (i ≤ 99)
    | _ => false
  | _ => false
end Y
namespace Y
variable [TabC]
open PySem L2 TL
local macro_rules
  | `(tactic| fail_if_success skip) => `(tactic| with_reducible refine And.intro (Eq.refl true) ?_)
local macro_rules
  | `(tactic| fail_if_success skip) => `(tactic| with_reducible refine onB_ff (by with_unfolding_all rfl) ?_)
local macro_rules
  | `(tactic| fail_if_success skip) => `(tactic| with_reducible refine onB_tt (by with_unfolding_all rfl) ?_)
local macro_rules
  | `(tactic| fail_if_success skip) => `(tactic| with_reducible refine onBl_b (by with_unfolding_all rfl) ?_)
local macro_rules
  | `(tactic| fail_if_success skip) => `(tactic| with_reducible refine onS_i (by with_unfolding_all rfl) ?_)
local macro_rules
  | `(tactic| fail_if_success skip) => `(tactic| with_reducible refine onI_i (by with_unfolding_all rfl) ?_)
local macro_rules
  | `(tactic| fail_if_success skip) => `(tactic| with_reducible refine PTo_ic (by with_unfolding_all rfl) ?_)
local macro_rules
  | `(tactic| fail_if_success skip) => `(tactic| with_reducible refine PTo_iY (by with_unfolding_all rfl) (by first | decide | assumption | omega) ?_)
local macro_rules
  | `(tactic| fail_if_success skip) => `(tactic| with_reducible refine PTo_n (by with_unfolding_all rfl) ?_)
local macro_rules
  | `(tactic| fail_if_success skip) => `(tactic| with_reducible refine PTo_s (by with_unfolding_all rfl) ?_)
local macro_rules
  | `(tactic| fail_if_success skip) => `(tactic| with_reducible refine PTo_s ix1f ?_)
local macro_rules
  | `(tactic| fail_if_success skip) => `(tactic| with_reducible refine PTo_s ix0f ?_)
local macro_rules
  | `(tactic| fail_if_success skip) => `(tactic| with_reducible refine PTo_s ix2t ?_)
local macro_rules
  | `(tactic| fail_if_success skip) => `(tactic| with_reducible refine PTo_s ix1l ?_)
local macro_rules
  | `(tactic| fail_if_success skip) => `(tactic| with_reducible refine PTo_s ix0l ?_)
local macro_rules
  | `(tactic| fail_if_success skip) => `(tactic| with_reducible refine PTo_s ix1t ?_)
local macro_rules
  | `(tactic| fail_if_success skip) => `(tactic| with_reducible refine PTo_s ix0t ?_)
local macro_rules
  | `(tactic| fail_if_success skip) => `(tactic| with_reducible refine OTo_i (by with_unfolding_all rfl) ?_)
local macro_rules
  | `(tactic| fail_if_success skip) => `(tactic| with_reducible refine STo_iteY (by first | decide | (simp only [List.length_cons, List.length_nil, List.length_append, List.length_map]; decide) | assumption | omega) ?_)
local macro_rules
  | `(tactic| fail_if_success skip) => `(tactic| with_reducible refine To_iteA ?_)
local macro_rules
  | `(tactic| fail_if_success skip) => `(tactic| with_reducible refine To_iteY (by first | decide | (simp only [List.length_cons, List.length_nil, List.length_append, List.length_map]; decide) | assumption | omega) ?_)
local macro_rules
  | `(tactic| fail_if_success skip) => `(tactic| with_reducible refine (rtV_o (by with_unfolding_all rfl) ?_))
local macro_rules
  | `(tactic| fail_if_success skip) => `(tactic| with_reducible refine (rtV_v (by with_unfolding_all rfl) ?_))
local macro_rules
  | `(tactic| fail_if_success skip) => `(tactic| with_reducible refine (rdV_o (by with_unfolding_all rfl) ?_))
local macro_rules
  | `(tactic| fail_if_success skip) => `(tactic| with_reducible refine (rdV_v (by with_unfolding_all rfl) ?_))
local macro_rules
  | `(tactic| fail_if_success skip) => `(tactic| with_reducible refine To_bindc ?_)
local macro_rules
  | `(tactic| fail_if_success skip) => `(tactic| with_reducible refine To_cMupkY (by with_unfolding_all rfl) ?_)
local macro_rules
  | `(tactic| fail_if_success skip) => `(tactic| with_reducible refine muFin_i (by with_unfolding_all rfl) (by with_unfolding_all rfl) ?_)
local macro_rules
  | `(tactic| fail_if_success skip) => `(tactic| with_reducible refine stFin_i (by with_unfolding_all rfl) (by with_unfolding_all rfl) ?_)
local macro_rules
  | `(tactic| fail_if_success skip) => `(tactic| with_reducible refine isF_and ?_)
local macro_rules
  | `(tactic| fail_if_success skip) => `(tactic| with_reducible refine Step.go ?_)
local macro_rules
  | `(tactic| bv_omega) => `(tactic| repeat (fail_if_success skip))
def negB : D → Bool
  | .tup [.str s, x] => decide (s = "not") && plainB x
  | _ => false
def condB (d : D) : Bool := plainB d || negB d
def condsB : D → Bool
  | .tup ds => decide (ds.length ≤ 4) && ds.all condB
  | _ => false
/-- of a cond: whether it asks for to -/
def asksB : D → Bool
  | .tup [.str s, x] => decide (s = "to") || decide (s = "not") && match x with
    | .tup (.str t :: _) => decide (t = "to")
    | _ => false
  | _ => false
def AsksOk (f : Fn) : Prop := ∀ (d : D), condB d = true → ∀ (g : Gs) (K : D → Bool → Lc → Gs → Prop), (∀ l, K (.bl (asksB d)) false l g) → (f [d] g).To K
theorem plain_form {d : D} (h : plainB d = true) : ∃ s x, d = .tup [.str s, x] ∧ s ≠ "not" := by
  cases d with
  | tup ds =>
    match ds, h with
    | [], h => cases h
    | [a], h => cases a <;> cases h
    | a :: b :: c :: r, h => cases a <;> cases h
    | [a, x], h =>
      cases a with
      | str s =>
        refine ⟨s, x, rfl, ?_⟩
        rintro rfl
        revert h
        simp only [plainB]
        rw [if_neg (by decide +kernel)]
        rw [decide_eq_false (by decide), Bool.false_and]
        exact Bool.false_ne_true
      | _ => cases h
  | _ => cases h
def worthB : D → Bool
  | .non => true
  | .int i => decide (-999 ≤ i) && decide (i ≤ 999)
  | _ => false
def likingB : D → Bool
  | .tup [.tup cs, w] => condsB (.tup cs) && !cs.any asksB && worthB w
  | _ => false
def actB : D → Bool
  | .tup [.str s] => decide (s = "keep")
  | .tup [.str s, n] => (decide (s = "put") || decide (s = "strike")) && nameB n
  | _ => false
def acts : List D := [.str "put", .str "strike"]
def handB : D → Bool
  | .tup [cs, a] => condsB cs && actB a
  | _ => false
end Y
namespace Y
variable [TabC]
open PySem L2 TL
local macro_rules
  | `(tactic| fail_if_success skip) => `(tactic| with_reducible refine And.intro (Eq.refl true) ?_)
local macro_rules
  | `(tactic| fail_if_success skip) => `(tactic| with_reducible refine onB_ff (by with_unfolding_all rfl) ?_)
local macro_rules
  | `(tactic| fail_if_success skip) => `(tactic| with_reducible refine onB_tt (by with_unfolding_all rfl) ?_)
local macro_rules
  | `(tactic| fail_if_success skip) => `(tactic| with_reducible refine onBl_b (by with_unfolding_all rfl) ?_)
local macro_rules
  | `(tactic| fail_if_success skip) => `(tactic| with_reducible refine onS_i (by with_unfolding_all rfl) ?_)
local macro_rules
  | `(tactic| fail_if_success skip) => `(tactic| with_reducible refine onI_i (by with_unfolding_all rfl) ?_)
local macro_rules
  | `(tactic| fail_if_success skip) => `(tactic| with_reducible refine PTo_ic (by with_unfolding_all rfl) ?_)
local macro_rules
  | `(tactic| fail_if_success skip) => `(tactic| with_reducible refine PTo_iY (by with_unfolding_all rfl) (by first | decide | assumption | omega) ?_)
local macro_rules
  | `(tactic| fail_if_success skip) => `(tactic| with_reducible refine PTo_n (by with_unfolding_all rfl) ?_)
local macro_rules
  | `(tactic| fail_if_success skip) => `(tactic| with_reducible refine PTo_s (by with_unfolding_all rfl) ?_)
local macro_rules
  | `(tactic| fail_if_success skip) => `(tactic| with_reducible refine PTo_s ix1f ?_)
local macro_rules
  | `(tactic| fail_if_success skip) => `(tactic| with_reducible refine PTo_s ix0f ?_)
local macro_rules
  | `(tactic| fail_if_success skip) => `(tactic| with_reducible refine PTo_s ix2t ?_)
local macro_rules
  | `(tactic| fail_if_success skip) => `(tactic| with_reducible refine PTo_s ix1l ?_)
local macro_rules
  | `(tactic| fail_if_success skip) => `(tactic| with_reducible refine PTo_s ix0l ?_)
local macro_rules
  | `(tactic| fail_if_success skip) => `(tactic| with_reducible refine PTo_s ix1t ?_)
local macro_rules
  | `(tactic| fail_if_success skip) => `(tactic| with_reducible refine PTo_s ix0t ?_)
local macro_rules
  | `(tactic| fail_if_success skip) => `(tactic| with_reducible refine OTo_i (by with_unfolding_all rfl) ?_)
local macro_rules
  | `(tactic| fail_if_success skip) => `(tactic| with_reducible refine STo_iteY (by first | decide | (simp only [List.length_cons, List.length_nil, List.length_append, List.length_map]; decide) | assumption | omega) ?_)
local macro_rules
  | `(tactic| fail_if_success skip) => `(tactic| with_reducible refine To_iteA ?_)
local macro_rules
  | `(tactic| fail_if_success skip) => `(tactic| with_reducible refine To_iteY (by first | decide | (simp only [List.length_cons, List.length_nil, List.length_append, List.length_map]; decide) | assumption | omega) ?_)
local macro_rules
  | `(tactic| fail_if_success skip) => `(tactic| with_reducible refine (rtV_o (by with_unfolding_all rfl) ?_))
local macro_rules
  | `(tactic| fail_if_success skip) => `(tactic| with_reducible refine (rtV_v (by with_unfolding_all rfl) ?_))
local macro_rules
  | `(tactic| fail_if_success skip) => `(tactic| with_reducible refine (rdV_o (by with_unfolding_all rfl) ?_))
local macro_rules
  | `(tactic| fail_if_success skip) => `(tactic| with_reducible refine (rdV_v (by with_unfolding_all rfl) ?_))
local macro_rules
  | `(tactic| fail_if_success skip) => `(tactic| with_reducible refine To_bindc ?_)
local macro_rules
  | `(tactic| fail_if_success skip) => `(tactic| with_reducible refine To_cMupkY (by with_unfolding_all rfl) ?_)
local macro_rules
  | `(tactic| fail_if_success skip) => `(tactic| with_reducible refine muFin_i (by with_unfolding_all rfl) (by with_unfolding_all rfl) ?_)
local macro_rules
  | `(tactic| fail_if_success skip) => `(tactic| with_reducible refine stFin_i (by with_unfolding_all rfl) (by with_unfolding_all rfl) ?_)
local macro_rules
  | `(tactic| fail_if_success skip) => `(tactic| with_reducible refine isF_and ?_)
local macro_rules
  | `(tactic| fail_if_success skip) => `(tactic| with_reducible refine Step.go ?_)
local macro_rules
  | `(tactic| bv_omega) => `(tactic| repeat (fail_if_success skip))
def NmD (d : D) : Prop := ∃ z, d = .str z ∧ nmS z = true
theorem nmD_of {xs : List D} (h : xs.all nmB = true) {d : D} (hd : d ∈ xs) : NmD d := by
  have := List.all_eq_true.mp h d hd
  cases d with
  | str z => exact ⟨z, rfl, this⟩
  | _ => cases this
theorem strOk_nm {z : Str} (h : nmS z = true) : PyData.strOk z = true := strOk_of fun c hc => letters_small c ((nm_parts h).2.2 c hc)
theorem clean_nm {d : D} (h : NmD d) : d.clean = true := by
  obtain ⟨z, rfl, h⟩ := h
  have := nm_parts h
  simp only [D.clean, strOk_nm h, Bool.true_and, decide_eq_true_eq]
  exact Nat.le_trans this.2.1 (by decide)
/-- a letter, so many times -/
theorem nm_rep {c : Nat} (hc : c ∈ letters) {m : Int} (h1 : 1 ≤ m) (h8 : m ≤ 8) : nmS (mulS ⟨#[c]⟩ m) = true := by
  have key : ∀ c ∈ letters, ∀ m ∈ [1, 2, 3, 4, 5, 6, 7, 8], nmS (mulS ⟨#[c]⟩ (m : Int)) = true := by decide +kernel
  have : m = 1 ∨ m = 2 ∨ m = 3 ∨ m = 4 ∨ m = 5 ∨ m = 6 ∨ m = 7 ∨ m = 8 := by omega
  rcases this with rfl | rfl | rfl | rfl | rfl | rfl | rfl | rfl <;> exact key c hc _ (by simp)
theorem names_ok {take pick : Fn} (T : TakeOk take) (P : PickOk pick) {g : Gs} {h n : Nat} {m : Int} (H : Hand g h (n + 4)) (m0 : 0 ≤ m) (m1 : m ≤ 1000) {K : D → Bool → Lc → Gs → Prop}
    (k : ∀ (ds : List D) (l : Lc) (g' : Gs), (∀ d ∈ ds, NmD d) → ds.length = m.toNat → Hand g' h n → g'.length = g.length → K (.lst ds) true l g') :
    (runD 9 2 (m__law_names take pick) [.ref h, .int m] g).To K := by
  unfold m__law_names
  refine To_runDi rfl ?_
  bv_omega
  refine T.go H (by decide) (by decide) fun a _ g1 a0 a1 H1 gl1 => ?_
  bv_omega
  refine P.go H1 _ rfl (by simp) (by decide) fun s _ g2 hs H2 gl2 => ?_
  obtain ⟨st, rfl, s0, s1⟩ : ∃ st : Int, s = .int st ∧ 1 ≤ st ∧ st ≤ 11 := by
    simp only [List.mem_cons, List.not_mem_nil, or_false] at hs
    rcases hs with rfl | rfl | rfl | rfl | rfl | rfl <;> exact ⟨_, rfl, by decide, by decide⟩
  bv_omega
  refine rg_and (by omega) (by omega) ?_
  have hrg : (rgD 0 m).length = m.toNat := by simp [rgD]
  have hin : ∀ d ∈ rgD 0 m, ∃ k : Int, d = .int k ∧ 0 ≤ k ∧ k < m := by
    intro d hd
    obtain ⟨k, hk, rfl⟩ := List.mem_map.mp hd
    rw [List.mem_range] at hk
    exact ⟨_, rfl, by omega, by omega⟩
  refine compL_rule (fun rest acc l g' => l = _ ∧ g' = g2 ∧ (∀ d ∈ acc, NmD d) ∧ acc.length + rest.length = m.toNat ∧ ∀ d ∈ rest, ∃ k : Int, d = .int k ∧ 0 ≤ k ∧ k < m) ⟨rfl, rfl, by simp, by simpa using hrg, hin⟩ ?_ ?_
  · rintro d rest acc l g' ⟨rfl, rfl, ha, hl, hr⟩
    obtain ⟨j, rfl, j0, j1⟩ := hr d List.mem_cons_self
    have f1 : fitsMul st j = true := fits_l (by omega) (by omega)
    have f2 : fitsMul j j = true := fits_l (by omega) (by omega)
    bv_omega
    obtain ⟨c, hc, ec⟩ := atI_in (xs := letters) (i := (a + st * j) % 26) (Int.emod_nonneg _ (by decide)) (Int.emod_lt_of_pos _ (by decide))
    have e : dIx (.str "abcdefghijklmnopqrstuvwxyz") (.int ((a + st * j) % 26)) = .sh (.str ⟨#[c]⟩) := by
      rw [dIx_s, if_pos (by decide)]
      have ec : atI (Str.cps "abcdefghijklmnopqrstuvwxyz").toList ((a + st * j) % 26) = some c := ec
      rw [ec]
    refine PTo_s e ?_
    bv_omega
    have q0 := Int.emod_nonneg (j * j + a) (b := 8) (by decide)
    have q1 := Int.emod_lt_of_pos (j * j + a) (b := 8) (by decide)
    have hz := nm_rep hc (m := 1 + (j * j + a) % 8) (by omega) (by omega)
    refine ⟨⟨by omega, by omega, by show (1 : Nat) ≤ 1000; decide⟩, ?_⟩
    bv_omega
    simp only [List.length_cons] at hl
    have hS : 1000 ≤ sizeLine := by decide
    refine ⟨by omega, rfl, rfl, ?_, by simp only [List.length_append, List.length_cons, List.length_nil]; omega, fun d hd => hr d (List.mem_cons_of_mem _ hd)⟩
    intro e he
    rcases List.mem_append.mp he with he | he
    · exact ha e he
    · rw [List.mem_singleton.mp he]; exact ⟨_, rfl, hz⟩
  · rintro acc l g' ⟨rfl, rfl, ha, hl, _⟩
    simp only [List.length_nil, Nat.add_zero] at hl
    bv_omega
    refine cutM (fun l g' => Hand g' h n ∧ g'.length = g.length ∧ ∃ (ds : List D) (a b c d e f g h : Option SV), l = [a, b, c, d, e, some (.own (.lst ds)), f, g, h] ∧ (∀ d ∈ ds, NmD d) ∧ ds.length = m.toNat) ?_ ?_
    · refine To_cIfS.mpr ?_
      bv_omega
      refine T.go H2 (by decide) (by decide) fun b _ g3 b0 b1 H3 gl3 => ?_
      bv_omega
      refine onB_dec (fun hb => ?_) (fun hb => ?_)
      · bv_omega
        refine T.go H3 (by decide) (by decide) fun p _ g4 p0 p1 H4 gl4 => ?_
        bv_omega
        refine rg_and (by split <;> omega) (by split <;> omega) ?_
        obtain ⟨mn, hmn, hmn2, hmn3⟩ : ∃ mn : Int, (if (4 : Int) < m then (4 : Int) else m) = mn ∧ mn ≤ m ∧ mn ≤ 4 := ⟨_, rfl, by split <;> omega, by split <;> omega⟩
        rw [hmn]
        have hk : ∀ d ∈ rgD 0 mn, ∃ k : Int, d = .int k ∧ 0 ≤ k ∧ k < mn := by
          intro d hd
          obtain ⟨k, hk, rfl⟩ := List.mem_map.mp hd
          rw [List.mem_range] at hk
          exact ⟨_, rfl, by omega, by omega⟩
        refine forL_rule (fun rest l g' => g' = g4 ∧ (∀ d ∈ rest, ∃ k : Int, d = .int k ∧ 0 ≤ k ∧ k < mn) ∧ ∃ (ds : List D) (x8 : Option SV), l = [some (.val (.ref h)), some (.val (.int m)), some (.val (.str "abcdefghijklmnopqrstuvwxyz")), some (.val (.int a)), some (.val (.int st)), some (.own (.lst ds)), some (.own (.lst _)), some (.val (.int p)), x8] ∧ (∀ d ∈ ds, NmD d) ∧ ds.length = m.toNat)
          ⟨rfl, hk, acc, _, rfl, ha, hl⟩ ?_ ?_
        · rintro d r l g' ⟨rfl, hr, ds, x8, rfl, hds, hlen⟩
          obtain ⟨j, rfl, j0, j1⟩ := hr d List.mem_cons_self
          have f1 : fitsMul 3 j = true := fits_l (by decide) (by decide)
          bv_omega
          obtain ⟨e, he, ee⟩ := ix_mem (xs := [.str "goal", .str "to", .str "by", .str "houses", .str "tie", .str "like", .str "hand", .str "keep", .str "put", .str "mark", .str "long", .str "from", .str "strike"]) (i := (p + 3 * j) % 13) (Int.emod_nonneg _ (by decide)) (Int.emod_lt_of_pos _ (by decide))
          refine PTo_s ee ?_
          bv_omega
          refine OTo_i (putIx_ok j0 (by omega)) ?_
          bv_omega
          refine ⟨rfl, fun d hd => hr d (List.mem_cons_of_mem _ hd), _, _, rfl, fun d hd => ?_, by simpa using hlen⟩
          rcases mem_set hd with hd | rfl
          · exact hds d hd
          · exact nmD_of (by decide +kernel) he
        · rintro l g' ⟨rfl, hr, ds, x8, rfl, hds, hlen⟩
          bv_omega
          exact ⟨H4, by omega, ds, _, _, _, _, _, _, _, _, rfl, hds, hlen⟩
      · bv_omega
        exact ⟨H3.le (by omega), by omega, acc, _, _, _, _, _, _, _, _, rfl, ha, hl⟩
    · rintro l g' ⟨H', gl', ds, a, b, c, d, e, f, g, h, rfl, hds, hlen⟩
      bv_omega
      exact k ds _ _ hds hlen H' gl'
end Y
namespace Y
variable [TabC]
open PySem L2 TL
local macro_rules
  | `(tactic| fail_if_success skip) => `(tactic| with_reducible refine And.intro (Eq.refl true) ?_)
local macro_rules
  | `(tactic| fail_if_success skip) => `(tactic| with_reducible refine onB_ff (by with_unfolding_all rfl) ?_)
local macro_rules
  | `(tactic| fail_if_success skip) => `(tactic| with_reducible refine onB_tt (by with_unfolding_all rfl) ?_)
local macro_rules
  | `(tactic| fail_if_success skip) => `(tactic| with_reducible refine onBl_b (by with_unfolding_all rfl) ?_)
local macro_rules
  | `(tactic| fail_if_success skip) => `(tactic| with_reducible refine onS_i (by with_unfolding_all rfl) ?_)
local macro_rules
  | `(tactic| fail_if_success skip) => `(tactic| with_reducible refine onI_i (by with_unfolding_all rfl) ?_)
local macro_rules
  | `(tactic| fail_if_success skip) => `(tactic| with_reducible refine PTo_ic (by with_unfolding_all rfl) ?_)
local macro_rules
  | `(tactic| fail_if_success skip) => `(tactic| with_reducible refine PTo_iY (by with_unfolding_all rfl) (by first | decide | assumption | omega) ?_)
local macro_rules
  | `(tactic| fail_if_success skip) => `(tactic| with_reducible refine PTo_n (by with_unfolding_all rfl) ?_)
local macro_rules
  | `(tactic| fail_if_success skip) => `(tactic| with_reducible refine PTo_s (by with_unfolding_all rfl) ?_)
local macro_rules
  | `(tactic| fail_if_success skip) => `(tactic| with_reducible refine PTo_s ix1f ?_)
local macro_rules
  | `(tactic| fail_if_success skip) => `(tactic| with_reducible refine PTo_s ix0f ?_)
local macro_rules
  | `(tactic| fail_if_success skip) => `(tactic| with_reducible refine PTo_s ix2t ?_)
local macro_rules
  | `(tactic| fail_if_success skip) => `(tactic| with_reducible refine PTo_s ix1l ?_)
local macro_rules
  | `(tactic| fail_if_success skip) => `(tactic| with_reducible refine PTo_s ix0l ?_)
local macro_rules
  | `(tactic| fail_if_success skip) => `(tactic| with_reducible refine PTo_s ix1t ?_)
local macro_rules
  | `(tactic| fail_if_success skip) => `(tactic| with_reducible refine PTo_s ix0t ?_)
local macro_rules
  | `(tactic| fail_if_success skip) => `(tactic| with_reducible refine OTo_i (by with_unfolding_all rfl) ?_)
local macro_rules
  | `(tactic| fail_if_success skip) => `(tactic| with_reducible refine STo_iteY (by first | decide | (simp only [List.length_cons, List.length_nil, List.length_append, List.length_map]; decide) | assumption | omega) ?_)
local macro_rules
  | `(tactic| fail_if_success skip) => `(tactic| with_reducible refine To_iteA ?_)
local macro_rules
  | `(tactic| fail_if_success skip) => `(tactic| with_reducible refine To_iteY (by first | decide | (simp only [List.length_cons, List.length_nil, List.length_append, List.length_map]; decide) | assumption | omega) ?_)
local macro_rules
  | `(tactic| fail_if_success skip) => `(tactic| with_reducible refine (rtV_o (by with_unfolding_all rfl) ?_))
local macro_rules
  | `(tactic| fail_if_success skip) => `(tactic| with_reducible refine (rtV_v (by with_unfolding_all rfl) ?_))
local macro_rules
  | `(tactic| fail_if_success skip) => `(tactic| with_reducible refine (rdV_o (by with_unfolding_all rfl) ?_))
local macro_rules
  | `(tactic| fail_if_success skip) => `(tactic| with_reducible refine (rdV_v (by with_unfolding_all rfl) ?_))
local macro_rules
  | `(tactic| fail_if_success skip) => `(tactic| with_reducible refine To_bindc ?_)
local macro_rules
  | `(tactic| fail_if_success skip) => `(tactic| with_reducible refine To_cMupkY (by with_unfolding_all rfl) ?_)
local macro_rules
  | `(tactic| fail_if_success skip) => `(tactic| with_reducible refine muFin_i (by with_unfolding_all rfl) (by with_unfolding_all rfl) ?_)
local macro_rules
  | `(tactic| fail_if_success skip) => `(tactic| with_reducible refine stFin_i (by with_unfolding_all rfl) (by with_unfolding_all rfl) ?_)
local macro_rules
  | `(tactic| fail_if_success skip) => `(tactic| with_reducible refine isF_and ?_)
local macro_rules
  | `(tactic| fail_if_success skip) => `(tactic| with_reducible refine Step.go ?_)
local macro_rules
  | `(tactic| bv_omega) => `(tactic| repeat (fail_if_success skip))
theorem clean_lit {z : Str} (h : (D.str z).clean = true) : (D.str z).clean = true := h
/-- a plain cond of a word and a name -/
theorem plain_named {s : Str} {x : D} (hs : D.str s ∈ named) (hx : NmD x) : plainB (.tup [.str s, x]) = true ∧ (D.tup [.str s, x]).clean = true := by
  obtain ⟨z, rfl, hz⟩ := hx
  refine ⟨by simp only [plainB, if_pos hs]; exact hz, ?_⟩
  have h1 : (D.str s).clean = true := by
    simp only [named, List.mem_cons, List.not_mem_nil, or_false] at hs
    rcases hs with h | h | h | h <;> (rw [h]; decide +kernel)
  simp only [D.clean, D.cleanL] at h1 ⊢
  have h2 := clean_nm ⟨z, rfl, hz⟩
  simp only [D.clean] at h2
  rw [h1, h2]; rfl
def longs : List D := [.int 0, .int 1, .int 2, .int 3, .int 4, .int 6, .int 9, .int 99]
theorem plain_long {x : D} (hx : x ∈ longs) : plainB (.tup [.str "long", x]) = true ∧ (D.tup [.str "long", x]).clean = true := by
  have : ∀ x ∈ longs, plainB (.tup [.str "long", x]) = true ∧ (D.tup [.str "long", x]).clean = true := by decide +kernel
  exact this x hx
/-- what a drawn cond is -/
structure GoodC (to : Bool) (d : D) : Prop where
  c : condB d = true
  cl : d.clean = true
  na : to = false → asksB d = false
theorem goodC_plain {to : Bool} {s : Str} {x : D} (h : plainB (.tup [.str s, x]) = true ∧ (D.tup [.str s, x]).clean = true) (hs : to = false → s ≠ "to") : GoodC to (.tup [.str s, x]) := by
  refine ⟨by unfold condB; rw [h.1]; rfl, h.2, fun e => ?_⟩
  have hn : s ≠ "not" := by
    obtain ⟨s', x', e, hs'⟩ := plain_form h.1
    cases e; exact hs'
  simp only [asksB, decide_eq_false (hs e), decide_eq_false hn, Bool.false_or, Bool.false_and]
theorem goodC_not {to : Bool} {s : Str} {x : D} (h : plainB (.tup [.str s, x]) = true ∧ (D.tup [.str s, x]).clean = true) (hs : to = false → s ≠ "to") : GoodC to (.tup [.str "not", .tup [.str s, x]]) := by
  have e0 : ("not" : Str) ≠ "to" := by decide
  refine ⟨?_, ?_, fun e => ?_⟩
  · unfold condB negB
    simp only [decide_true, Bool.true_and, h.1, Bool.or_true]
  · have h1 : (D.str "not").clean = true := by decide +kernel
    have h2 := h.2
    simp only [D.clean, D.cleanL] at h1 h2 ⊢
    rw [h1, h2]; rfl
  · simp only [asksB, decide_eq_false e0, Bool.false_or, decide_true, Bool.true_and, decide_eq_false (hs e)]
end Y
namespace Y
variable [TabC]
open PySem L2 TL
/-- each less than the next one -/
def risB {α : Type} (lt : α → α → Bool) (xs : List α) : Bool := (xs.zip (xs.drop 1)).all fun p => lt p.1 p.2
theorem risB_of {α : Type} {lt : α → α → Prop} [∀ a b, Decidable (lt a b)] : ∀ {xs : List α}, xs.Pairwise lt → risB (fun a b => decide (lt a b)) xs = true
  | [], _ => rfl
  | [a], _ => rfl
  | a :: b :: xs, h => by
    have ih := risB_of h.tail
    have h1 : lt a b := List.rel_of_pairwise_cons h List.mem_cons_self
    unfold risB at ih ⊢
    show (decide (lt a b) && _) = true
    rw [decide_eq_true h1, Bool.true_and]
    exact ih
theorem lt_of_ris {α : Type} {lt : α → α → Prop} [∀ a b, Decidable (lt a b)] (tr : ∀ {a b c}, lt a b → lt b c → lt a c) : ∀ {xs : List α}, risB (fun a b => decide (lt a b)) xs = true → xs.Pairwise lt
  | [], _ => .nil
  | [a], _ => List.pairwise_singleton _ _
  | a :: b :: xs, h => by
    have h : (decide (lt a b) && risB (fun a b => decide (lt a b)) (b :: xs)) = true := h
    rw [Bool.and_eq_true, decide_eq_true_eq] at h
    have ih := lt_of_ris (lt := lt) tr h.2
    refine .cons (fun c hc => ?_) ih
    rcases List.mem_cons.mp hc with rfl | hc
    · exact h.1
    · exact tr h.1 (List.rel_of_pairwise_cons ih hc)
theorem dLt_s {a b : Str} : dLt (.str a) (.str b) = .sh (.bl (decide (ltS a b))) := rfl
theorem dLt_p {p q : P2S} : dLt (pD p) (pD q) = .sh (.bl (decide (ltP p q))) := by
  show PR.bl (ltGen (pD p) (pD q)) = _
  unfold ltGen
  have e1 : (pD p).py = some (.tuple [.str p.1, .str p.2]) := rfl
  have e2 : (pD q).py = some (.tuple [.str q.1, .str q.2]) := rfl
  rw [e1, e2]
  simp only [PySem.W.alike, PySem.W.alikeAll, Bool.and_self, PyData.depth, PyData.depthAll, Bool.true_and]
  rw [lt_pp]
  rfl
/-- the list cut behind its first -/
theorem cut1 {ds : List D} : cutD ds (some 1) none = ds.drop 1 := by
  unfold cutD
  have h : HT.sIx ds.length 0 (some 1) = min 1 ds.length := HT.sIx_nat _ _ 1
  rw [h, show HT.sIx ds.length ds.length none = ds.length from rfl]
  cases ds with
  | nil => rfl
  | cons a r =>
    have : min 1 (a :: r).length = 1 := by simp
    rw [this]
    refine List.take_of_length_le ?_
    simp
theorem dSl_tup {x : D} {ds : List D} {lo hi : Option Int} (h : tupOf x = some ds) : ∃ y, dSl x lo hi = .sh y ∧ tupOf y = some (cutD ds lo hi) := by
  cases x with
  | tup es => cases h; exact ⟨_, rfl, rfl⟩
  | ftup es =>
    cases h
    by_cases c : HT.sIx ds.length 0 lo = 0 ∧ HT.sIx ds.length ds.length hi = ds.length
    · refine ⟨.ftup ds, if_pos c, ?_⟩
      unfold cutD
      rw [c.1, c.2]
      simp [tupOf]
    · exact ⟨.tup (cutD ds lo hi), if_neg c, rfl⟩
  | _ => cases h
theorem tup_cont {x : D} {ds : List D} (h : tupOf x = some ds) (g : Gs) : x.cont g = x := by
  cases x <;> first | rfl | cases h
theorem tup_items {x : D} {ds : List D} (h : tupOf x = some ds) (g : Gs) : itemsOf x g = some (ds, none) := by
  cases x <;> first | (cases h; rfl) | cases h
theorem tup_len {x : D} {ds : List D} (h : tupOf x = some ds) : dLen x = .sh (.int ds.length) := by
  cases x <;> first | (cases h; rfl) | cases h
theorem tup_ix {x : D} {ds : List D} {i : Int} {d : D} (h : tupOf x = some ds) (e : atI ds i = some d) : dIx x (.int i) = .sh d := by
  cases x <;> first | (cases h; simp [e]) | cases h
theorem tup_inst {x : D} {ds : List D} (h : tupOf x = some ds) : isInst "tuple" x = .sh (.bl true) := by
  cases x <;> first | (cases h; rfl) | cases h
theorem tup_nin {x y : D} {ds : List D} (h : tupOf x = some ds) : dNin y x = .bl ((anyEq y ds).map (!·)) := by
  cases x with
  | tup es => cases h; unfold dNin; cases y <;> rfl
  | ftup es => cases h; unfold dNin; cases y <;> rfl
  | _ => cases h
theorem tup_in {x y : D} {ds : List D} (h : tupOf x = some ds) : dIn y x = .bl (anyEq y ds) := by
  cases x with
  | tup es => cases h; unfold dIn; cases y <;> rfl
  | ftup es => cases h; unfold dIn; cases y <;> rfl
  | _ => cases h
theorem tup_zip {x y : D} {ds es : List D} (h : tupOf x = some ds) (h' : tupOf y = some es) (l : Lc) (g : Gs) : zp2 x y l g = .ok (zipD ds es) none l g := by
  unfold zp2
  split
  · cases h
  · cases h
  · rw [h, h']
theorem nice_s {zs : List Str} (h : ∀ z ∈ zs, nmS z = true) : D.niceL (zs.map .str) = true := by
  induction zs with
  | nil => rfl
  | cons z zs ih =>
    simp only [List.map_cons, D.niceL, Bool.and_eq_true]
    exact ⟨strOk_nm (h z List.mem_cons_self), ih fun y hy => h y (List.mem_cons_of_mem _ hy)⟩
theorem dep_s {zs : List Str} : D.depL (zs.map .str) = 0 := by
  induction zs with
  | nil => rfl
  | cons z zs ih => simp only [List.map_cons, D.depL, ih]; rfl
theorem anyEq_s {z : Str} {zs : List Str} (hz : PyData.strOk z = true) (h : ∀ z ∈ zs, nmS z = true) : anyEq (.str z) (zs.map .str) = some (decide (z ∈ zs)) := by
  rw [anyEq_nice (show D.nice (.str z) = true from hz) (nice_s h) (Nat.zero_le _) (by rw [dep_s]; decide)]
  congr 1
  simp
theorem strsOf_map' : ∀ zs : List Str, strsOf (zs.map .str) = some zs
  | [] => rfl
  | z :: zs => by simp [strsOf, strsOf_map' zs]
theorem dLenSet_s {ws : List Str} (h : ws.length < 4000) : dLenSet (.tup (ws.map .str)) = .sh (.int (uniqS ws).length) := by
  unfold dLenSet
  simp only [seqOf, strsOf_map']
  rw [if_pos h]
theorem dSortSet_t {ws : List Str} (h : ws.length < 4000) : dSortSet (.tup (ws.map .str)) = .nw (.lst ((sortS (uniqS ws)).map .str)) := by
  unfold dSortSet
  simp only [seqOf, strsOf_map']
  rw [if_pos h, sortD_s]
theorem dSortSet_l {ws : List Str} (h : ws.length < 4000) : dSortSet (.lst (ws.map .str)) = .nw (.lst ((sortS (uniqS ws)).map .str)) := by
  unfold dSortSet
  simp only [seqOf, strsOf_map']
  rw [if_pos h, sortD_s]
end Y
namespace Y
variable [TabC]
open PySem L2 TL
local macro_rules
  | `(tactic| fail_if_success skip) => `(tactic| with_reducible refine And.intro (Eq.refl true) ?_)
local macro_rules
  | `(tactic| fail_if_success skip) => `(tactic| with_reducible refine onB_ff (by with_unfolding_all rfl) ?_)
local macro_rules
  | `(tactic| fail_if_success skip) => `(tactic| with_reducible refine onB_tt (by with_unfolding_all rfl) ?_)
local macro_rules
  | `(tactic| fail_if_success skip) => `(tactic| with_reducible refine onBl_b (by with_unfolding_all rfl) ?_)
local macro_rules
  | `(tactic| fail_if_success skip) => `(tactic| with_reducible refine onS_i (by with_unfolding_all rfl) ?_)
local macro_rules
  | `(tactic| fail_if_success skip) => `(tactic| with_reducible refine onI_i (by with_unfolding_all rfl) ?_)
local macro_rules
  | `(tactic| fail_if_success skip) => `(tactic| with_reducible refine PTo_ic (by with_unfolding_all rfl) ?_)
local macro_rules
  | `(tactic| fail_if_success skip) => `(tactic| with_reducible refine PTo_iY (by with_unfolding_all rfl) (by first | decide | assumption | omega) ?_)
local macro_rules
  | `(tactic| fail_if_success skip) => `(tactic| with_reducible refine PTo_n (by with_unfolding_all rfl) ?_)
local macro_rules
  | `(tactic| fail_if_success skip) => `(tactic| with_reducible refine PTo_s (by with_unfolding_all rfl) ?_)
local macro_rules
  | `(tactic| fail_if_success skip) => `(tactic| with_reducible refine PTo_s ix1f ?_)
local macro_rules
  | `(tactic| fail_if_success skip) => `(tactic| with_reducible refine PTo_s ix0f ?_)
local macro_rules
  | `(tactic| fail_if_success skip) => `(tactic| with_reducible refine PTo_s ix2t ?_)
local macro_rules
  | `(tactic| fail_if_success skip) => `(tactic| with_reducible refine PTo_s ix1l ?_)
local macro_rules
  | `(tactic| fail_if_success skip) => `(tactic| with_reducible refine PTo_s ix0l ?_)
local macro_rules
  | `(tactic| fail_if_success skip) => `(tactic| with_reducible refine PTo_s ix1t ?_)
local macro_rules
  | `(tactic| fail_if_success skip) => `(tactic| with_reducible refine PTo_s ix0t ?_)
local macro_rules
  | `(tactic| fail_if_success skip) => `(tactic| with_reducible refine OTo_i (by with_unfolding_all rfl) ?_)
local macro_rules
  | `(tactic| fail_if_success skip) => `(tactic| with_reducible refine STo_iteY (by first | decide | (simp only [List.length_cons, List.length_nil, List.length_append, List.length_map]; decide) | assumption | omega) ?_)
local macro_rules
  | `(tactic| fail_if_success skip) => `(tactic| with_reducible refine To_iteA ?_)
local macro_rules
  | `(tactic| fail_if_success skip) => `(tactic| with_reducible refine To_iteY (by first | decide | (simp only [List.length_cons, List.length_nil, List.length_append, List.length_map]; decide) | assumption | omega) ?_)
local macro_rules
  | `(tactic| fail_if_success skip) => `(tactic| with_reducible refine (rtV_o (by with_unfolding_all rfl) ?_))
local macro_rules
  | `(tactic| fail_if_success skip) => `(tactic| with_reducible refine (rtV_v (by with_unfolding_all rfl) ?_))
local macro_rules
  | `(tactic| fail_if_success skip) => `(tactic| with_reducible refine (rdV_o (by with_unfolding_all rfl) ?_))
local macro_rules
  | `(tactic| fail_if_success skip) => `(tactic| with_reducible refine (rdV_v (by with_unfolding_all rfl) ?_))
local macro_rules
  | `(tactic| fail_if_success skip) => `(tactic| with_reducible refine To_bindc ?_)
local macro_rules
  | `(tactic| fail_if_success skip) => `(tactic| with_reducible refine To_cMupkY (by with_unfolding_all rfl) ?_)
local macro_rules
  | `(tactic| fail_if_success skip) => `(tactic| with_reducible refine muFin_i (by with_unfolding_all rfl) (by with_unfolding_all rfl) ?_)
local macro_rules
  | `(tactic| fail_if_success skip) => `(tactic| with_reducible refine stFin_i (by with_unfolding_all rfl) (by with_unfolding_all rfl) ?_)
local macro_rules
  | `(tactic| fail_if_success skip) => `(tactic| with_reducible refine isF_and ?_)
local macro_rules
  | `(tactic| fail_if_success skip) => `(tactic| with_reducible refine Step.go ?_)
local macro_rules
  | `(tactic| bv_omega) => `(tactic| repeat (fail_if_success skip))
section
variable {K : List D → Gd → Lc → Gs → Prop} {l : Lc} {g : Gs}
theorem To_iZip2 {a b : Sm} : (iZip2 a b l g).To K ↔ (a l g).To fun x _ l g => (b l g).To fun y _ l g => (zp2 x y l g).To K := by
  unfold iZip2; simp only [To_irBind]
end
def cleanT (d : D) : Bool := match tupOf d with
  | some ds => D.cleanL ds
  | none => d.clean
def namesB (m : Int) (d : D) : Bool := match tupOf d with
  | some ds => decide ((ds.length : Int) ≤ m) && ds.all nameB
  | none => false
def ltD (x y : D) : Bool := match x, y with
  | .str a, .str b => decide (ltS a b)
  | .tup [.str a, .str b], .tup [.str c, .str d] => decide (ltP (a, b) (c, d))
  | _, _ => false
def risD (d : D) : Bool := match tupOf d with
  | some ds => risB ltD ds
  | none => false
def inHs (h : D) (z : Str) : Bool := match tupOf h with
  | some ds => decide (D.str z ∈ ds)
  | none => false
def goalB (h : D) : D → Bool
  | .str z => inHs h z
  | _ => false
def tieB (h : D) : D → Bool
  | .tup [.str a, .str b] => inHs h a && inHs h b && decide (ltS a b)
  | _ => false
def tiesB (h : D) : D → Bool
  | .tup ds => ds.all (tieB h) && risB ltD ds
  | _ => false
def sizeB (h : D) : D → Bool
  | .tup ls => match tupOf h with
    | some hs => decide (ls.length = hs.length)
    | none => false
  | _ => false
def everyB (p : D → Bool) : D → Bool
  | .tup ls => ls.all p
  | _ => false
def rulesB (p : D → Bool) : D → Bool
  | .tup ds => decide (ds.length ≤ 90) && ds.all p
  | _ => false
def townB : D → Bool
  | .tup [g, h, t, l, k] => namesB 10 h && risD h && (goalB h g && tiesB h t) && (sizeB h l && sizeB h k) && (everyB (rulesB likingB) l && everyB (rulesB handB) k)
  | _ => false
theorem cleanT_mem {d : D} {ds : List D} (h : cleanT d = true) (e : tupOf d = some ds) {x : D} (hx : x ∈ ds) : x.clean = true := by
  unfold cleanT at h; rw [e] at h
  exact cleanL_mem h hx
theorem inst_tupT {d : D} (h : cleanT d = true) (g : Gs) : isInst "tuple" (D.cont g d) = .sh (.bl (tupOf d).isSome) := by
  cases d <;> first | rfl | (simp [cleanT, tupOf, D.clean] at h; done)
theorem inst_strT {d : D} (h : cleanT d = true) (g : Gs) : isInst "str" (D.cont g d) = .sh (.bl (strB d)) := by
  cases d <;> first | rfl | (simp [cleanT, tupOf, D.clean] at h; done)
/-- a thing whose type is known -/
def topB : D → Bool
  | .ref _ => false
  | .set _ => false
  | .dcu _ => false
  | .ctup _ => false
  | .clst _ => false
  | .ftup _ => false
  | _ => true
theorem inst_tupTop {d : D} (h : topB d = true) (g : Gs) : isInst "tuple" (D.cont g d) = .sh (.bl (tupB d)) := by
  cases d <;> first | rfl | cases h
theorem zip_all {ds es : List D} {p : D → D → Bool} : ((zipD ds es).all fun d => match d with | .tup [a, b] => p a b | _ => true) = (ds.zip es).all fun q => p q.1 q.2 := by
  unfold zipD
  rw [List.all_map]
  rfl
theorem names_str {ds : List D} (h : ds.all nameB = true) : ∃ zs : List Str, ds = zs.map .str ∧ ∀ z ∈ zs, nmS z = true := by
  induction ds with
  | nil => exact ⟨[], rfl, by simp⟩
  | cons d ds ih =>
    simp only [List.all_cons, Bool.and_eq_true] at h
    obtain ⟨zs, rfl, hz⟩ := ih h.2
    cases d with
    | str z =>
      refine ⟨z :: zs, rfl, fun y hy => ?_⟩
      rcases List.mem_cons.mp hy with rfl | hy
      · exact h.1
      · exact hz y hy
    | _ => exact nomatch h.1
theorem inHs_eq {h : D} {zs : List Str} (e : tupOf h = some (zs.map .str)) (z : Str) : inHs h z = decide (z ∈ zs) := by
  unfold inHs; rw [e]; simp
theorem nin_hs {h : D} {zs : List Str} (e : tupOf h = some (zs.map .str)) (hz : ∀ z ∈ zs, nmS z = true) {z : Str} (hs : PyData.strOk z = true) : dNin (.str z) h = .sh (.bl (!inHs h z)) := by
  rw [tup_nin e, anyEq_s hs hz, inHs_eq e]; rfl
theorem tie_form {h d : D} (ht : tieB h d = true) : ∃ p : P2S, d = pD p := by
  unfold tieB at ht
  split at ht
  · exact ⟨(_, _), rfl⟩
  · cases ht
/-- what may be a town: clean but for the houses' kind -/
def cleanTw (d : D) : Bool := match d with
  | .tup [g, h, t, l, k] => cleanT g && cleanT h && t.clean && l.clean && k.clean
  | d => topB d
end Y
namespace Y
variable [TabC]
open PySem L2 TL
local macro_rules
  | `(tactic| fail_if_success skip) => `(tactic| with_reducible refine And.intro (Eq.refl true) ?_)
local macro_rules
  | `(tactic| fail_if_success skip) => `(tactic| with_reducible refine onB_ff (by with_unfolding_all rfl) ?_)
local macro_rules
  | `(tactic| fail_if_success skip) => `(tactic| with_reducible refine onB_tt (by with_unfolding_all rfl) ?_)
local macro_rules
  | `(tactic| fail_if_success skip) => `(tactic| with_reducible refine onBl_b (by with_unfolding_all rfl) ?_)
local macro_rules
  | `(tactic| fail_if_success skip) => `(tactic| with_reducible refine onS_i (by with_unfolding_all rfl) ?_)
local macro_rules
  | `(tactic| fail_if_success skip) => `(tactic| with_reducible refine onI_i (by with_unfolding_all rfl) ?_)
local macro_rules
  | `(tactic| fail_if_success skip) => `(tactic| with_reducible refine PTo_ic (by with_unfolding_all rfl) ?_)
local macro_rules
  | `(tactic| fail_if_success skip) => `(tactic| with_reducible refine PTo_iY (by with_unfolding_all rfl) (by first | decide | assumption | omega) ?_)
local macro_rules
  | `(tactic| fail_if_success skip) => `(tactic| with_reducible refine PTo_n (by with_unfolding_all rfl) ?_)
local macro_rules
  | `(tactic| fail_if_success skip) => `(tactic| with_reducible refine PTo_s (by with_unfolding_all rfl) ?_)
local macro_rules
  | `(tactic| fail_if_success skip) => `(tactic| with_reducible refine PTo_s ix1f ?_)
local macro_rules
  | `(tactic| fail_if_success skip) => `(tactic| with_reducible refine PTo_s ix0f ?_)
local macro_rules
  | `(tactic| fail_if_success skip) => `(tactic| with_reducible refine PTo_s ix2t ?_)
local macro_rules
  | `(tactic| fail_if_success skip) => `(tactic| with_reducible refine PTo_s ix1l ?_)
local macro_rules
  | `(tactic| fail_if_success skip) => `(tactic| with_reducible refine PTo_s ix0l ?_)
local macro_rules
  | `(tactic| fail_if_success skip) => `(tactic| with_reducible refine PTo_s ix1t ?_)
local macro_rules
  | `(tactic| fail_if_success skip) => `(tactic| with_reducible refine PTo_s ix0t ?_)
local macro_rules
  | `(tactic| fail_if_success skip) => `(tactic| with_reducible refine OTo_i (by with_unfolding_all rfl) ?_)
local macro_rules
  | `(tactic| fail_if_success skip) => `(tactic| with_reducible refine STo_iteY (by first | decide | (simp only [List.length_cons, List.length_nil, List.length_append, List.length_map]; decide) | assumption | omega) ?_)
local macro_rules
  | `(tactic| fail_if_success skip) => `(tactic| with_reducible refine To_iteA ?_)
local macro_rules
  | `(tactic| fail_if_success skip) => `(tactic| with_reducible refine To_iteY (by first | decide | (simp only [List.length_cons, List.length_nil, List.length_append, List.length_map]; decide) | assumption | omega) ?_)
local macro_rules
  | `(tactic| fail_if_success skip) => `(tactic| with_reducible refine (rtV_o (by with_unfolding_all rfl) ?_))
local macro_rules
  | `(tactic| fail_if_success skip) => `(tactic| with_reducible refine (rtV_v (by with_unfolding_all rfl) ?_))
local macro_rules
  | `(tactic| fail_if_success skip) => `(tactic| with_reducible refine (rdV_o (by with_unfolding_all rfl) ?_))
local macro_rules
  | `(tactic| fail_if_success skip) => `(tactic| with_reducible refine (rdV_v (by with_unfolding_all rfl) ?_))
local macro_rules
  | `(tactic| fail_if_success skip) => `(tactic| with_reducible refine To_bindc ?_)
local macro_rules
  | `(tactic| fail_if_success skip) => `(tactic| with_reducible refine To_cMupkY (by with_unfolding_all rfl) ?_)
local macro_rules
  | `(tactic| fail_if_success skip) => `(tactic| with_reducible refine muFin_i (by with_unfolding_all rfl) (by with_unfolding_all rfl) ?_)
local macro_rules
  | `(tactic| fail_if_success skip) => `(tactic| with_reducible refine stFin_i (by with_unfolding_all rfl) (by with_unfolding_all rfl) ?_)
local macro_rules
  | `(tactic| fail_if_success skip) => `(tactic| with_reducible refine isF_and ?_)
local macro_rules
  | `(tactic| fail_if_success skip) => `(tactic| with_reducible refine Step.go ?_)
local macro_rules
  | `(tactic| bv_omega) => `(tactic| repeat (fail_if_success skip))
/-! ### the names of a town: unlike -/
def ltr (i : Int) : Nat := letters.getD i.toNat 0
def nmj (a st j : Int) : Str := mulS ⟨#[ltr ((a + st * j) % 26)]⟩ (1 + (j * j + a) % 8)
def kws : List Str := ["goal", "to", "by", "houses", "tie", "like", "hand", "keep", "put", "mark", "long", "from", "strike"]
def kwj (p j : Int) : Str := kws.getD ((p + 3 * j) % 13).toNat "goal"
def nm2 (a st p : Int) (i j : Nat) : Str := if j < i then kwj p j else nmj a st j
theorem ltr_ok {i : Int} (h0 : 0 ≤ i) (h1 : i < 26) : ltr i ∈ letters ∧ atI letters i = some (ltr i) := by
  obtain ⟨k, rfl⟩ := Int.eq_ofNat_of_zero_le h0
  have hk : k < letters.length := by show k < 26; omega
  have e : ltr (k : Int) = letters[k] := by
    unfold ltr
    rw [Int.toNat_natCast, List.getD_eq_getElem?_getD, List.getElem?_eq_getElem hk]; rfl
  rw [e]
  exact ⟨List.getElem_mem hk, atI_nat (List.getElem?_eq_getElem hk)⟩
theorem nmj_ok (a st j : Int) : nmS (nmj a st j) = true := by
  have q0 := Int.emod_nonneg (j * j + a) (b := 8) (by decide)
  have q1 := Int.emod_lt_of_pos (j * j + a) (b := 8) (by decide)
  exact nm_rep (ltr_ok (Int.emod_nonneg _ (by decide)) (Int.emod_lt_of_pos _ (by decide))).1 (by omega) (by omega)
theorem rep_tl {c : Nat} (hc : c ∈ letters) {m : Int} (h1 : 1 ≤ m) (h8 : m ≤ 8) : (mulS ⟨#[c]⟩ m).cps.toList = List.replicate m.toNat c := by
  have key : ∀ c ∈ letters, ∀ m ∈ [1, 2, 3, 4, 5, 6, 7, 8], (mulS ⟨#[c]⟩ (m : Nat)).cps.toList = List.replicate m c := by decide +kernel
  have : m = 1 ∨ m = 2 ∨ m = 3 ∨ m = 4 ∨ m = 5 ∨ m = 6 ∨ m = 7 ∨ m = 8 := by omega
  rcases this with rfl | rfl | rfl | rfl | rfl | rfl | rfl | rfl <;> exact key c hc _ (by simp)
theorem nmj_tl (a st j : Int) : ∃ k : Nat, (nmj a st j).cps.toList = List.replicate (k + 1) (ltr ((a + st * j) % 26)) := by
  have q0 := Int.emod_nonneg (j * j + a) (b := 8) (by decide)
  have q1 := Int.emod_lt_of_pos (j * j + a) (b := 8) (by decide)
  refine ⟨((j * j + a) % 8).toNat, ?_⟩
  unfold nmj
  rw [rep_tl (ltr_ok (Int.emod_nonneg _ (by decide)) (Int.emod_lt_of_pos _ (by decide))).1 (by omega) (by omega)]
  congr 1
  omega
theorem kwj_mem (p j : Int) : kwj p j ∈ kws := by
  have q0 := Int.emod_nonneg (p + 3 * j) (b := 13) (by decide)
  have q1 := Int.emod_lt_of_pos (p + 3 * j) (b := 13) (by decide)
  have hk : ((p + 3 * j) % 13).toNat < kws.length := by show _ < 13; omega
  unfold kwj
  rw [List.getD_eq_getElem?_getD, List.getElem?_eq_getElem hk]
  exact List.getElem_mem hk
theorem kwj_ok (p j : Int) : nmS (kwj p j) = true := by
  have : ∀ z ∈ kws, nmS z = true := by decide +kernel
  exact this _ (kwj_mem p j)
theorem kw_two {z : Str} (h : z ∈ kws) : ∃ x y r, z.cps.toList = x :: y :: r ∧ x ≠ y := by
  have : ∀ z ∈ kws, (match z.cps.toList with | x :: y :: _ => x != y | _ => false) = true := by decide +kernel
  have := this z h
  split at this
  · rename_i x y r e; exact ⟨x, y, r, e, by simpa using this⟩
  · cases this
theorem nmj_ne_kw {a st j : Int} {z : Str} (h : z ∈ kws) : nmj a st j ≠ z := by
  rintro rfl
  obtain ⟨x, y, r, e, hne⟩ := kw_two h
  obtain ⟨k, ek⟩ := nmj_tl a st j
  rw [e] at ek
  cases k with
  | zero => simp at ek
  | succ k =>
    simp only [List.replicate_succ, List.cons.injEq] at ek
    exact hne (ek.1.trans ek.2.1.symm)
theorem kws_nodup : kws.Nodup := by decide +kernel
theorem getD_inj {α : Type} {xs : List α} (h : xs.Nodup) {i j : Nat} {d : α} (hi : i < xs.length) (hj : j < xs.length) (e : xs.getD i d = xs.getD j d) : i = j := by
  rw [List.getD_eq_getElem?_getD, List.getD_eq_getElem?_getD, List.getElem?_eq_getElem hi, List.getElem?_eq_getElem hj] at e
  exact (List.getElem_inj h).mp e
theorem kwj_inj {p : Int} {i j : Nat} (hi : i < 4) (hj : j < 4) (e : kwj p i = kwj p j) : i = j := by
  have q0 := Int.emod_nonneg (p + 3 * (i : Int)) (b := 13) (by decide)
  have q1 := Int.emod_lt_of_pos (p + 3 * (i : Int)) (b := 13) (by decide)
  have q2 := Int.emod_nonneg (p + 3 * (j : Int)) (b := 13) (by decide)
  have q3 := Int.emod_lt_of_pos (p + 3 * (j : Int)) (b := 13) (by decide)
  have := getD_inj kws_nodup (by show _ < 13; omega) (by show _ < 13; omega) e
  omega
theorem ltr_inj {i j : Int} (h0 : 0 ≤ i) (h1 : i < 26) (k0 : 0 ≤ j) (k1 : j < 26) (e : ltr i = ltr j) : i = j := by
  have hn : letters.Nodup := by decide +kernel
  have := getD_inj hn (by show _ < 26; omega) (by show _ < 26; omega) e
  omega
theorem nmj_inj {a st : Int} (hs : st = 1 ∨ st = 3 ∨ st = 5 ∨ st = 7 ∨ st = 9 ∨ st = 11) {i j : Nat} (hi : i < 26) (hj : j < 26) (e : nmj a st i = nmj a st j) : i = j := by
  obtain ⟨k, ek⟩ := nmj_tl a st i
  obtain ⟨m, em⟩ := nmj_tl a st j
  rw [e, em] at ek
  simp only [List.replicate_succ, List.cons.injEq] at ek
  have := ltr_inj (Int.emod_nonneg _ (by decide)) (Int.emod_lt_of_pos _ (by decide)) (Int.emod_nonneg _ (by decide)) (Int.emod_lt_of_pos _ (by decide)) ek.1
  rcases hs with rfl | rfl | rfl | rfl | rfl | rfl <;> omega
theorem nm2_inj {a st p : Int} (hs : st = 1 ∨ st = 3 ∨ st = 5 ∨ st = 7 ∨ st = 9 ∨ st = 11) {n : Nat} (hn : n ≤ 4) {i j : Nat} (hi : i < 26) (hj : j < 26) (e : nm2 a st p n i = nm2 a st p n j) : i = j := by
  unfold nm2 at e
  by_cases h1 : i < n <;> by_cases h2 : j < n
  · rw [if_pos h1, if_pos h2] at e; exact kwj_inj (by omega) (by omega) e
  · rw [if_pos h1, if_neg h2] at e; exact absurd e.symm (nmj_ne_kw (kwj_mem _ _))
  · rw [if_neg h1, if_pos h2] at e; exact absurd e (nmj_ne_kw (kwj_mem _ _))
  · rw [if_neg h1, if_neg h2] at e; exact nmj_inj hs hi hj e
theorem nm2_ok (a st p : Int) (n j : Nat) : nmS (nm2 a st p n j) = true := by
  unfold nm2; split
  · exact kwj_ok _ _
  · exact nmj_ok _ _ _
def nms (a st p : Int) (n m : Nat) : List Str := (List.range m).map (nm2 a st p n)
/-- a letter, so many times; or a kept word -/
def Ord (z : Str) : Prop := (∃ k c, z.cps.toList = List.replicate (k + 1) c) ∨ z ∈ kws
theorem nm2_ord (a st p : Int) (n j : Nat) : Ord (nm2 a st p n j) := by
  unfold nm2; split
  · exact .inr (kwj_mem _ _)
  · obtain ⟨k, e⟩ := nmj_tl a st j
    exact .inl ⟨k, _, e⟩
/-- what is none -/
theorem not_ord {z : Str} (h : (match z.cps.toList with | x :: y :: _ => x != y | _ => false) = true) (h2 : z ∉ kws) : ¬ Ord z := by
  rintro (⟨k, c, e⟩ | h3)
  · rw [e] at h
    cases k with
    | zero => simp at h
    | succ k => simp [List.replicate_succ] at h
  · exact h2 h3
theorem nms_nodup {a st p : Int} (hs : st = 1 ∨ st = 3 ∨ st = 5 ∨ st = 7 ∨ st = 9 ∨ st = 11) {n m : Nat} (hn : n ≤ 4) (hm : m ≤ 26) : (nms a st p n m).Nodup := by
  unfold nms
  refine List.Pairwise.map _ ?_ ((List.nodup_range (n := m)).imp_of_mem (R := fun a b => a ≠ b) (S := fun x y => nm2 a st p n x ≠ nm2 a st p n y) ?_)
  · exact fun _ _ h => h
  · intro x y hx hy hne e
    rw [List.mem_range] at hx hy
    exact hne (nm2_inj hs hn (by omega) (by omega) e)
theorem nms_set {a st p : Int} {n m : Nat} (h : n < m) : (nms a st p n m).set n (kwj p n) = nms a st p (n + 1) m := by
  apply List.ext_getElem?
  intro j
  unfold nms
  rw [List.getElem?_set]
  by_cases h1 : n = j
  · subst h1
    rw [if_pos rfl, if_pos (by simpa using h)]
    rw [List.getElem?_map, List.getElem?_range h]
    simp [nm2]
  · rw [if_neg h1]
    simp only [List.getElem?_map]
    by_cases h2 : j < m
    · rw [List.getElem?_range h2]
      simp only [Option.map_some, nm2]
      by_cases h3 : j < n
      · rw [if_pos h3, if_pos (by omega)]
      · rw [if_neg h3, if_neg (by omega)]
    · rw [List.getElem?_eq_none (by simpa using h2)]
      rfl
theorem dix_kw (p j : Int) : dIx (.lst [.str "goal", .str "to", .str "by", .str "houses", .str "tie", .str "like", .str "hand", .str "keep", .str "put", .str "mark", .str "long", .str "from", .str "strike"]) (.int ((p + 3 * j) % 13)) = .sh (.str (kwj p j)) := by
  have q0 := Int.emod_nonneg (p + 3 * j) (b := 13) (by decide)
  have q1 := Int.emod_lt_of_pos (p + 3 * j) (b := 13) (by decide)
  unfold kwj
  generalize (p + 3 * j) % 13 = i at q0 q1
  obtain ⟨k, rfl⟩ := Int.eq_ofNat_of_zero_le q0
  have hk : k < 13 := by omega
  rw [dIx_l, Int.toNat_natCast]
  match k, hk with
  | 0, _ => rfl
  | 1, _ => rfl
  | 2, _ => rfl
  | 3, _ => rfl
  | 4, _ => rfl
  | 5, _ => rfl
  | 6, _ => rfl
  | 7, _ => rfl
  | 8, _ => rfl
  | 9, _ => rfl
  | 10, _ => rfl
  | 11, _ => rfl
  | 12, _ => rfl
def intOf : D → Int
  | .int i => i
  | _ => 0
theorem names_ok2 {take pick : Fn} (T : TakeOk take) (P : PickOk pick) {g : Gs} {h n : Nat} {m : Int} (H : Hand g h (n + 4)) (m0 : 0 ≤ m) (m1 : m ≤ 26) {K : D → Bool → Lc → Gs → Prop}
    (k : ∀ (zs : List Str) (l : Lc) (g' : Gs), (∀ z ∈ zs, nmS z = true) → (∀ z ∈ zs, Ord z) → zs.Nodup → (zs.length : Int) = m → Hand g' h n → g'.length = g.length → K (.lst (zs.map .str)) true l g') :
    (runD 9 2 (m__law_names take pick) [.ref h, .int m] g).To K := by
  obtain ⟨M, rfl⟩ := Int.eq_ofNat_of_zero_le m0
  have k : ∀ (a st p : Int) (i : Nat) (l : Lc) (g' : Gs), (st = 1 ∨ st = 3 ∨ st = 5 ∨ st = 7 ∨ st = 9 ∨ st = 11) → i ≤ 4 → Hand g' h n → g'.length = g.length → K (.lst ((nms a st p i M).map .str)) true l g' := fun a st p i l g' hs hi H' gl => by
    refine k _ l g' (fun z hz => ?_) (fun z hz => ?_) (nms_nodup hs hi (by omega)) (by simp [nms]) H' gl
    · obtain ⟨j, _, rfl⟩ := List.mem_map.mp hz
      exact nm2_ok _ _ _ _ _
    · obtain ⟨j, _, rfl⟩ := List.mem_map.mp hz
      exact nm2_ord _ _ _ _ _
  unfold m__law_names
  refine To_runDi rfl ?_
  bv_omega
  refine T.go H (by decide) (by decide) fun a _ g1 a0 a1 H1 gl1 => ?_
  bv_omega
  refine P.go H1 _ rfl (by simp) (by decide) fun s _ g2 hs H2 gl2 => ?_
  obtain ⟨st, rfl, hst⟩ : ∃ st : Int, s = .int st ∧ (st = 1 ∨ st = 3 ∨ st = 5 ∨ st = 7 ∨ st = 9 ∨ st = 11) := by
    simp only [List.mem_cons, List.not_mem_nil, or_false] at hs
    rcases hs with rfl | rfl | rfl | rfl | rfl | rfl <;> exact ⟨_, rfl, by decide⟩
  bv_omega
  refine rg_and (by omega) (by omega) ?_
  refine compL_map (fun d => .str (nmj a st (intOf d))) ?_ ?_ ?_
  · intro d hd
    obtain ⟨j, rfl, j0, j1⟩ := rg_in d hd
    have f1 : fitsMul st j = true := fits_l (by omega) (by omega)
    have f2 : fitsMul j j = true := fits_l (by omega) (by omega)
    bv_omega
    have r0 := Int.emod_nonneg (a + st * j) (b := 26) (by decide)
    have r1 := Int.emod_lt_of_pos (a + st * j) (b := 26) (by decide)
    have e : dIx (.str "abcdefghijklmnopqrstuvwxyz") (.int ((a + st * j) % 26)) = .sh (.str ⟨#[ltr ((a + st * j) % 26)]⟩) := by
      rw [dIx_s, if_pos (by decide)]
      have ec : atI (Str.cps "abcdefghijklmnopqrstuvwxyz").toList ((a + st * j) % 26) = some (ltr ((a + st * j) % 26)) := (ltr_ok r0 r1).2
      rw [ec]
    refine PTo_s e ?_
    bv_omega
    have q0 := Int.emod_nonneg (j * j + a) (b := 8) (by decide)
    have q1 := Int.emod_lt_of_pos (j * j + a) (b := 8) (by decide)
    refine ⟨⟨by omega, by omega, by show (1 : Nat) ≤ 1000; decide⟩, ?_⟩
    bv_omega
    exact ⟨rfl, rfl, rfl⟩
  · have hS : 100000 ≤ sizeLine := by decide
    rw [rg_len]
    simp only [List.length_nil]; omega
  have e0 : ([] : List D) ++ (rgD 0 (M : Int)).map (fun d => D.str (nmj a st (intOf d))) = (nms a st 0 0 M).map D.str := by
    rw [List.nil_append]
    unfold rgD nms
    simp only [List.map_map]
    rw [show ((M : Int) - 0).toNat = M by omega]
    apply List.map_congr_left
    intro j _
    simp [nm2, intOf]
  rw [e0]
  bv_omega
  refine cutM (fun l g' => Hand g' h n ∧ g'.length = g.length ∧ ∃ (p : Int) (i : Nat) (a' b c d e f g h : Option SV), i ≤ 4 ∧ l = [a', b, c, d, e, some (.own (.lst ((nms a st p i M).map D.str))), f, g, h]) ?_ ?_
  · refine To_cIfS.mpr ?_
    bv_omega
    refine T.go H2 (by decide) (by decide) fun b _ g3 b0 b1 H3 gl3 => ?_
    bv_omega
    refine onB_dec (fun hb => ?_) (fun hb => ?_)
    · bv_omega
      refine T.go H3 (by decide) (by decide) fun p _ g4 p0 p1 H4 gl4 => ?_
      bv_omega
      refine rg_and (by split <;> omega) (by split <;> omega) ?_
      obtain ⟨mn, hmn, hmn2, hmn3⟩ : ∃ mn : Nat, (if (4 : Int) < (M : Int) then (4 : Int) else (M : Int)) = (mn : Int) ∧ mn ≤ M ∧ mn ≤ 4 := by
        by_cases h4 : (4 : Int) < M
        · exact ⟨4, by rw [if_pos h4]; rfl, by omega, by omega⟩
        · exact ⟨M, by rw [if_neg h4], by omega, by omega⟩
      rw [hmn, show nms a st 0 0 M = nms a st p 0 M from by unfold nms; apply List.map_congr_left; intro j _; simp [nm2]]
      refine forL_rule (fun rest l g' => g' = g4 ∧ ∃ (i : Nat) (x8 : Option SV), i + rest.length = mn ∧ (rest = ((List.range mn).drop i).map fun k => D.int ((k : Nat) : Int)) ∧ l = [some (.val (.ref h)), some (.val (.int (M : Int))), some (.val (.str "abcdefghijklmnopqrstuvwxyz")), some (.val (.int a)), some (.val (.int st)), some (.own (.lst ((nms a st p i M).map D.str))), some (.own (.lst [.str "goal", .str "to", .str "by", .str "houses", .str "tie", .str "like", .str "hand", .str "keep", .str "put", .str "mark", .str "long", .str "from", .str "strike"])), some (.val (.int p)), x8])
        ⟨rfl, 0, _, by simp [rgD], by simp [rgD], rfl⟩ ?_ ?_
      · rintro d r l g' ⟨rfl, i, x8, hi, hr, rfl⟩
        simp only [List.length_cons] at hi
        have him : i < mn := by omega
        have hdrop : (List.range mn).drop i = i :: (List.range mn).drop (i + 1) := by
          rw [List.drop_eq_getElem_cons (by simpa using him)]
          simp
        rw [hdrop, List.map_cons] at hr
        obtain ⟨rfl, rfl⟩ := List.cons.inj hr
        have f1 : fitsMul 3 (i : Int) = true := fits_l (by decide) (by decide)
        bv_omega
        refine PTo_s (dix_kw p i) ?_
        bv_omega
        refine OTo_i (putIx_ok (by omega) (by simp [nms]; omega)) ?_
        bv_omega
        have es : (List.map D.str (nms a st p i M)).set i (D.str (kwj p i)) = (nms a st p (i + 1) M).map D.str := by
          rw [← nms_set (by omega : i < M), List.map_set]
        rw [Int.toNat_natCast, es]
        exact ⟨rfl, i + 1, _, by simp at hi ⊢; omega, rfl, rfl⟩
      · rintro l g' ⟨rfl, i, x8, hi, hr, rfl⟩
        bv_omega
        exact ⟨H4, by omega, p, i, _, _, _, _, _, _, _, _, by simp only [List.length_nil] at hi; omega, rfl⟩
    · bv_omega
      exact ⟨H3.le (by omega), by omega, 0, 0, _, _, _, _, _, _, _, _, by omega, rfl⟩
  · rintro l g' ⟨H', gl', p, i, a', b, c, d, e, f, g, h, hi, rfl⟩
    bv_omega
    exact k a st p i _ _ hst hi H' gl'
end Y
namespace Y
variable [TabC]
open PySem L2 TL
local macro_rules
  | `(tactic| fail_if_success skip) => `(tactic| with_reducible refine And.intro (Eq.refl true) ?_)
local macro_rules
  | `(tactic| fail_if_success skip) => `(tactic| with_reducible refine onB_ff (by with_unfolding_all rfl) ?_)
local macro_rules
  | `(tactic| fail_if_success skip) => `(tactic| with_reducible refine onB_tt (by with_unfolding_all rfl) ?_)
local macro_rules
  | `(tactic| fail_if_success skip) => `(tactic| with_reducible refine onBl_b (by with_unfolding_all rfl) ?_)
local macro_rules
  | `(tactic| fail_if_success skip) => `(tactic| with_reducible refine onS_i (by with_unfolding_all rfl) ?_)
local macro_rules
  | `(tactic| fail_if_success skip) => `(tactic| with_reducible refine onI_i (by with_unfolding_all rfl) ?_)
local macro_rules
  | `(tactic| fail_if_success skip) => `(tactic| with_reducible refine PTo_ic (by with_unfolding_all rfl) ?_)
local macro_rules
  | `(tactic| fail_if_success skip) => `(tactic| with_reducible refine PTo_iY (by with_unfolding_all rfl) (by first | decide | assumption | omega) ?_)
local macro_rules
  | `(tactic| fail_if_success skip) => `(tactic| with_reducible refine PTo_n (by with_unfolding_all rfl) ?_)
local macro_rules
  | `(tactic| fail_if_success skip) => `(tactic| with_reducible refine PTo_s (by with_unfolding_all rfl) ?_)
local macro_rules
  | `(tactic| fail_if_success skip) => `(tactic| with_reducible refine PTo_s ix1f ?_)
local macro_rules
  | `(tactic| fail_if_success skip) => `(tactic| with_reducible refine PTo_s ix0f ?_)
local macro_rules
  | `(tactic| fail_if_success skip) => `(tactic| with_reducible refine PTo_s ix2t ?_)
local macro_rules
  | `(tactic| fail_if_success skip) => `(tactic| with_reducible refine PTo_s ix1l ?_)
local macro_rules
  | `(tactic| fail_if_success skip) => `(tactic| with_reducible refine PTo_s ix0l ?_)
local macro_rules
  | `(tactic| fail_if_success skip) => `(tactic| with_reducible refine PTo_s ix1t ?_)
local macro_rules
  | `(tactic| fail_if_success skip) => `(tactic| with_reducible refine PTo_s ix0t ?_)
local macro_rules
  | `(tactic| fail_if_success skip) => `(tactic| with_reducible refine OTo_i (by with_unfolding_all rfl) ?_)
local macro_rules
  | `(tactic| fail_if_success skip) => `(tactic| with_reducible refine STo_iteY (by first | decide | (simp only [List.length_cons, List.length_nil, List.length_append, List.length_map]; decide) | assumption | omega) ?_)
local macro_rules
  | `(tactic| fail_if_success skip) => `(tactic| with_reducible refine To_iteA ?_)
local macro_rules
  | `(tactic| fail_if_success skip) => `(tactic| with_reducible refine To_iteY (by first | decide | (simp only [List.length_cons, List.length_nil, List.length_append, List.length_map]; decide) | assumption | omega) ?_)
local macro_rules
  | `(tactic| fail_if_success skip) => `(tactic| with_reducible refine (rtV_o (by with_unfolding_all rfl) ?_))
local macro_rules
  | `(tactic| fail_if_success skip) => `(tactic| with_reducible refine (rtV_v (by with_unfolding_all rfl) ?_))
local macro_rules
  | `(tactic| fail_if_success skip) => `(tactic| with_reducible refine (rdV_o (by with_unfolding_all rfl) ?_))
local macro_rules
  | `(tactic| fail_if_success skip) => `(tactic| with_reducible refine (rdV_v (by with_unfolding_all rfl) ?_))
local macro_rules
  | `(tactic| fail_if_success skip) => `(tactic| with_reducible refine To_bindc ?_)
local macro_rules
  | `(tactic| fail_if_success skip) => `(tactic| with_reducible refine To_cMupkY (by with_unfolding_all rfl) ?_)
local macro_rules
  | `(tactic| fail_if_success skip) => `(tactic| with_reducible refine muFin_i (by with_unfolding_all rfl) (by with_unfolding_all rfl) ?_)
local macro_rules
  | `(tactic| fail_if_success skip) => `(tactic| with_reducible refine stFin_i (by with_unfolding_all rfl) (by with_unfolding_all rfl) ?_)
local macro_rules
  | `(tactic| fail_if_success skip) => `(tactic| with_reducible refine isF_and ?_)
local macro_rules
  | `(tactic| fail_if_success skip) => `(tactic| with_reducible refine Step.go ?_)
local macro_rules
  | `(tactic| bv_omega) => `(tactic| repeat (fail_if_success skip))
/-- a row of kin -/
abbrev R3 := Str × Str × Str
abbrev rD (r : R3) : D := .tup [.str r.1, .str r.2.1, .str r.2.2]
def kinD (kn : List R3) : D := .tup (kn.map rD)
def overB (r : R3) : Bool := decide (r.2.2 = ("over" : Str))
def Over (kn : List R3) (a b : Str) : Prop := (a, b, ("over" : Str)) ∈ kn
/-- rows of names -/
structure KinOk (kn : List R3) : Prop where
  one : ∀ r ∈ kn, nmS r.1 = true
  two : ∀ r ∈ kn, nmS r.2.1 = true
  word : ∀ r ∈ kn, r.2.2 = "over" ∨ r.2.2 = "equal"
  len : kn.length ≤ 400
def chS (kn : List R3) (h : Str) : List Str := sortS ((kn.filter fun r => decide (r.1 = h) && overB r).map (·.2.1))
theorem chS_mem {kn : List R3} {h c : Str} : c ∈ chS kn h ↔ Over kn h c := by
  unfold chS Over
  rw [sortS_mem]
  simp only [List.mem_map, List.mem_filter, Bool.and_eq_true, decide_eq_true_eq, overB]
  constructor
  · rintro ⟨⟨a, b, w⟩, ⟨h1, h2, h3⟩, h4⟩
    simp only at h2 h3 h4
    subst h2 h3 h4
    exact h1
  · intro h1
    exact ⟨_, ⟨h1, rfl, rfl⟩, rfl⟩
def rowP (h : Str) : D → Bool
  | .tup [.str a, _, .str w] => decide (a = h) && decide (w = ("over" : Str))
  | _ => false
def rowB : D → D
  | .tup [_, b, _] => b
  | _ => .non
theorem children_ok {kn : List R3} (o : KinOk kn) {h : Str} {g : Gs} : Gets F_children_of [kinD kn, .str h] g (.lst ((chS kn h).map .str)) true := by
  intro K k
  have hS : 100000 ≤ sizeLine := by decide
  have hl := o.len
  unfold F_children_of m_children_of
  refine To_runDi rfl ?_
  unfold kinD
  bv_omega
  refine compL_filter (rowP h) rowB ?_ (by simp only [List.length_nil, List.length_map]; omega) ?_
  · intro d hd
    obtain ⟨⟨a, b, w⟩, hr, rfl⟩ := List.mem_map.mp hd
    bv_omega
    refine onB_b (fun e1 => ?_) (fun e1 => ?_)
    · bv_omega
      refine ⟨by simp only [rowP, e1, Bool.true_and], ?_⟩
      split
      · bv_omega
        exact ⟨rfl, rfl, rfl⟩
      · exact ⟨rfl, rfl⟩
    · bv_omega
      refine ⟨by simp only [rowP, e1, Bool.false_and], ?_⟩
      split
      · rename_i e2
        simp only [rowP, e1, Bool.false_and] at e2
        cases e2
      · exact ⟨rfl, rfl⟩
  have e : List.map rowB (List.filter (rowP h) (List.map rD kn)) = ((kn.filter fun r => decide (r.1 = h) && overB r).map (·.2.1)).map D.str := by
    rw [List.filter_map, List.map_map, List.map_map]
    rfl
  rw [List.nil_append]
  bv_omega
  show srtOk (List.map rowB (List.filter (rowP h) (List.map rD kn))) = true ∧ (PR.nw (D.lst (sortD (List.map rowB (List.filter (rowP h) (List.map rD kn)))))).To _
  rw [e]
  refine ⟨srtOk_s _, ?_⟩
  rw [sortD_s]
  exact PTo_nw.mpr (k [])
/-- the houses of rows -/
def hsS (kn : List R3) : List Str := sortS (uniqS (kn.map (·.1) ++ kn.map (·.2.1)))
theorem hsS_mem {kn : List R3} {z : Str} : z ∈ hsS kn ↔ ∃ r ∈ kn, r.1 = z ∨ r.2.1 = z := by
  unfold hsS
  rw [sortS_mem, uniqS_mem, List.mem_append, List.mem_map, List.mem_map]
  constructor
  · rintro (⟨r, h1, h2⟩ | ⟨r, h1, h2⟩)
    · exact ⟨r, h1, .inl h2⟩
    · exact ⟨r, h1, .inr h2⟩
  · rintro ⟨r, h1, h2 | h2⟩
    · exact .inl ⟨r, h1, h2⟩
    · exact .inr ⟨r, h1, h2⟩
/-- those that have a child among them -/
def hasCh (kn : List R3) (L : List Str) (z : Str) : Bool := (chS kn z).any fun c => decide (c ∈ L)
theorem hasCh_iff {kn : List R3} {L : List Str} {z : Str} : hasCh kn L z = true ↔ ∃ c, Over kn z c ∧ c ∈ L := by
  unfold hasCh
  rw [List.any_eq_true]
  constructor
  · rintro ⟨c, h1, h2⟩; exact ⟨c, chS_mem.mp h1, of_decide_eq_true h2⟩
  · rintro ⟨c, h1, h2⟩; exact ⟨c, chS_mem.mpr h1, decide_eq_true h2⟩
/-- a ring: the first one the last one, no other twice, each over the next -/
structure RingOk (kn : List R3) (zs : List Str) : Prop where
  ne : 2 ≤ zs.length
  ends : zs.head? = zs.getLast?
  nd : (zs.drop 1).Nodup
  st : ∀ i a b, zs[i]? = some a → zs[i + 1]? = some b → Over kn a b
/-- rows' ranks: each row leads to less -/
def Ranked (kn : List R3) : Prop := ∃ r : Str → Nat, ∀ a b, Over kn a b → r b < r a
end Y
namespace Y
variable [TabC]
open PySem L2 TL
local macro_rules
  | `(tactic| fail_if_success skip) => `(tactic| with_reducible refine And.intro (Eq.refl true) ?_)
local macro_rules
  | `(tactic| fail_if_success skip) => `(tactic| with_reducible refine onB_ff (by with_unfolding_all rfl) ?_)
local macro_rules
  | `(tactic| fail_if_success skip) => `(tactic| with_reducible refine onB_tt (by with_unfolding_all rfl) ?_)
local macro_rules
  | `(tactic| fail_if_success skip) => `(tactic| with_reducible refine onBl_b (by with_unfolding_all rfl) ?_)
local macro_rules
  | `(tactic| fail_if_success skip) => `(tactic| with_reducible refine onS_i (by with_unfolding_all rfl) ?_)
local macro_rules
  | `(tactic| fail_if_success skip) => `(tactic| with_reducible refine onI_i (by with_unfolding_all rfl) ?_)
local macro_rules
  | `(tactic| fail_if_success skip) => `(tactic| with_reducible refine PTo_ic (by with_unfolding_all rfl) ?_)
local macro_rules
  | `(tactic| fail_if_success skip) => `(tactic| with_reducible refine PTo_iY (by with_unfolding_all rfl) (by first | decide | assumption | omega) ?_)
local macro_rules
  | `(tactic| fail_if_success skip) => `(tactic| with_reducible refine PTo_n (by with_unfolding_all rfl) ?_)
local macro_rules
  | `(tactic| fail_if_success skip) => `(tactic| with_reducible refine PTo_s (by with_unfolding_all rfl) ?_)
local macro_rules
  | `(tactic| fail_if_success skip) => `(tactic| with_reducible refine PTo_s ix1f ?_)
local macro_rules
  | `(tactic| fail_if_success skip) => `(tactic| with_reducible refine PTo_s ix0f ?_)
local macro_rules
  | `(tactic| fail_if_success skip) => `(tactic| with_reducible refine PTo_s ix2t ?_)
local macro_rules
  | `(tactic| fail_if_success skip) => `(tactic| with_reducible refine PTo_s ix1l ?_)
local macro_rules
  | `(tactic| fail_if_success skip) => `(tactic| with_reducible refine PTo_s ix0l ?_)
local macro_rules
  | `(tactic| fail_if_success skip) => `(tactic| with_reducible refine PTo_s ix1t ?_)
local macro_rules
  | `(tactic| fail_if_success skip) => `(tactic| with_reducible refine PTo_s ix0t ?_)
local macro_rules
  | `(tactic| fail_if_success skip) => `(tactic| with_reducible refine OTo_i (by with_unfolding_all rfl) ?_)
local macro_rules
  | `(tactic| fail_if_success skip) => `(tactic| with_reducible refine STo_iteY (by first | decide | (simp only [List.length_cons, List.length_nil, List.length_append, List.length_map]; decide) | assumption | omega) ?_)
local macro_rules
  | `(tactic| fail_if_success skip) => `(tactic| with_reducible refine To_iteA ?_)
local macro_rules
  | `(tactic| fail_if_success skip) => `(tactic| with_reducible refine To_iteY (by first | decide | (simp only [List.length_cons, List.length_nil, List.length_append, List.length_map]; decide) | assumption | omega) ?_)
local macro_rules
  | `(tactic| fail_if_success skip) => `(tactic| with_reducible refine (rtV_o (by with_unfolding_all rfl) ?_))
local macro_rules
  | `(tactic| fail_if_success skip) => `(tactic| with_reducible refine (rtV_v (by with_unfolding_all rfl) ?_))
local macro_rules
  | `(tactic| fail_if_success skip) => `(tactic| with_reducible refine (rdV_o (by with_unfolding_all rfl) ?_))
local macro_rules
  | `(tactic| fail_if_success skip) => `(tactic| with_reducible refine (rdV_v (by with_unfolding_all rfl) ?_))
local macro_rules
  | `(tactic| fail_if_success skip) => `(tactic| with_reducible refine To_bindc ?_)
local macro_rules
  | `(tactic| fail_if_success skip) => `(tactic| with_reducible refine To_cMupkY (by with_unfolding_all rfl) ?_)
local macro_rules
  | `(tactic| fail_if_success skip) => `(tactic| with_reducible refine muFin_i (by with_unfolding_all rfl) (by with_unfolding_all rfl) ?_)
local macro_rules
  | `(tactic| fail_if_success skip) => `(tactic| with_reducible refine stFin_i (by with_unfolding_all rfl) (by with_unfolding_all rfl) ?_)
local macro_rules
  | `(tactic| fail_if_success skip) => `(tactic| with_reducible refine isF_and ?_)
local macro_rules
  | `(tactic| fail_if_success skip) => `(tactic| with_reducible refine Step.go ?_)
local macro_rules
  | `(tactic| bv_omega) => `(tactic| repeat (fail_if_success skip))
/-! ### rings among houses: the plain law -/
theorem KinOk.over {kn : List R3} (o : KinOk kn) {a b : Str} (h : Over kn a b) : nmS a = true ∧ nmS b = true := ⟨o.one _ h, o.two _ h⟩
/-- houses left: what is gone has a greater rank than what it leads to -/
def LeftOk (kn : List R3) (L : List Str) : Prop := ∃ (r : Str → Nat) (N : Nat), (∀ a b, Over kn a b → a ∉ L → b ∉ L ∧ r b < r a) ∧ ∀ x, x ∉ L → r x < N
theorem left0 {kn : List R3} : LeftOk kn (hsS kn) := ⟨fun _ => 0, 1, fun a b h ha => absurd (hsS_mem.mpr ⟨_, h, .inl rfl⟩) ha, fun _ _ => Nat.one_pos⟩
theorem left_step {kn : List R3} {L : List Str} (h : LeftOk kn L) : LeftOk kn (L.filter (hasCh kn L)) := by
  obtain ⟨r, N, h1, h2⟩ := h
  refine ⟨fun x => if x ∈ L then N else r x, N + 1, fun a b hab ha => ?_, fun x hx => ?_⟩
  · by_cases hL : a ∈ L
    · have hb : b ∉ L := fun hb => ha (List.mem_filter.mpr ⟨hL, hasCh_iff.mpr ⟨b, hab, hb⟩⟩)
      refine ⟨fun hb' => hb (List.mem_filter.mp hb').1, ?_⟩
      show (if b ∈ L then N else r b) < (if a ∈ L then N else r a)
      rw [if_neg hb, if_pos hL]
      exact h2 b hb
    · obtain ⟨hb, hr⟩ := h1 a b hab hL
      refine ⟨fun hb' => hb (List.mem_filter.mp hb').1, ?_⟩
      show (if b ∈ L then N else r b) < (if a ∈ L then N else r a)
      rw [if_neg hb, if_neg hL]
      exact hr
  · show (if x ∈ L then N else r x) < N + 1
    split
    · omega
    · rename_i hL
      exact Nat.lt_succ_of_lt (h2 x hL)
theorem left_nil {kn : List R3} (h : LeftOk kn []) : Ranked kn := by
  obtain ⟨r, N, h1, _⟩ := h
  exact ⟨r, fun a b hab => (h1 a b hab List.not_mem_nil).2⟩
/-- each of these has a child here -/
def AllCh (kn : List R3) (L : List Str) : Prop := ∀ z ∈ L, hasCh kn L z = true
theorem allCh_of {kn : List R3} {L : List Str} (h : (L.filter (hasCh kn L)).length = L.length) : AllCh kn L := List.length_filter_eq_length_iff.mp h
/-- a row gone from one house to the next -/
structure RowOk (kn : List R3) (L row : List Str) : Prop where
  ne : row ≠ []
  nd : row.dropLast.Nodup
  sub : ∀ z ∈ row, z ∈ L
  st : ∀ i a b, row[i]? = some a → row[i + 1]? = some b → Over kn a b
theorem nodup_sub_len : ∀ {row L : List Str}, row.Nodup → (∀ z ∈ row, z ∈ L) → row.length ≤ L.length
  | [], L, _, _ => Nat.zero_le _
  | a :: row, L, hn, hs => by
    obtain ⟨h1, h2⟩ := List.nodup_cons.mp hn
    have ha := hs a List.mem_cons_self
    have := nodup_sub_len (row := row) (L := L.erase a) h2 fun z hz => (List.mem_erase_of_ne (fun e => h1 (by rw [← e]; exact hz))).mpr (hs z (List.mem_cons_of_mem _ hz))
    rw [List.length_erase_of_mem ha] at this
    have hp := List.length_pos_of_mem ha
    rw [List.length_cons]
    omega
theorem RowOk.last_ex {kn : List R3} {L row : List Str} (o : RowOk kn L row) : ∃ xs z, row = xs ++ [z] := by
  rcases List.eq_nil_or_concat row with h | ⟨xs, z, h⟩
  · exact absurd h o.ne
  · exact ⟨xs, z, by rw [h, List.concat_eq_append]⟩
theorem RowOk.one {kn : List R3} {L : List Str} {z : Str} (h : z ∈ L) : RowOk kn L [z] where
  ne := by simp
  nd := by simp
  sub := fun y hy => by rw [List.mem_singleton.mp hy]; exact h
  st := fun i a b h1 h2 => by simp at h2
theorem RowOk.next {kn : List R3} {L xs : List Str} {z c : Str} (o : RowOk kn L (xs ++ [z])) (hz : z ∉ xs) (hc : Over kn z c) (hL : c ∈ L) : RowOk kn L (xs ++ [z] ++ [c]) where
  ne := by simp
  nd := by
    rw [List.dropLast_concat]
    have := o.nd
    rw [List.dropLast_concat] at this
    rw [List.nodup_append]
    refine ⟨this, by simp, fun a ha b hb e => ?_⟩
    rw [List.mem_singleton.mp hb] at e
    exact hz (e ▸ ha)
  sub := fun y hy => by
    rcases List.mem_append.mp hy with hy | hy
    · exact o.sub y hy
    · rw [List.mem_singleton.mp hy]; exact hL
  st := fun i a b h1 h2 => by
    have hl : (xs ++ [z]).length = xs.length + 1 := by simp
    by_cases hi : i + 1 < (xs ++ [z]).length
    · rw [List.getElem?_append_left (by omega)] at h1
      rw [List.getElem?_append_left hi] at h2
      exact o.st i a b h1 h2
    · obtain ⟨hb, eb⟩ := List.getElem?_eq_some_iff.mp h2
      simp only [List.length_append, List.length_cons, List.length_nil] at hb hi
      have : i = xs.length := by omega
      subst this
      rw [List.append_assoc, List.getElem?_append_right (Nat.le_refl _), Nat.sub_self] at h1
      rw [List.append_assoc, List.getElem?_append_right (by omega), show xs.length + 1 - xs.length = 1 by omega] at h2
      cases h1
      cases h2
      exact hc
theorem RowOk.ring {kn : List R3} {L xs : List Str} {z : Str} (o : RowOk kn L (xs ++ [z])) {j : Nat} (hj : xs[j]? = some z) : RingOk kn ((xs ++ [z]).drop j) := by
  obtain ⟨hl, ej⟩ := List.getElem?_eq_some_iff.mp hj
  have hnd := o.nd
  rw [List.dropLast_concat] at hnd
  have hd : (xs ++ [z]).drop j = xs[j] :: (xs.drop (j + 1) ++ [z]) := by
    rw [List.drop_append_of_le_length (by omega), List.drop_eq_getElem_cons hl, List.cons_append]
  refine ⟨?_, ?_, ?_, fun i a b h1 h2 => ?_⟩
  · rw [List.length_drop, List.length_append, List.length_cons, List.length_nil]; omega
  · rw [hd, ej, ← List.cons_append, List.getLast?_concat]
    rfl
  · rw [hd]
    show (xs.drop (j + 1) ++ [z]).Nodup
    rw [List.nodup_append]
    refine ⟨(List.drop_sublist _ _).nodup hnd, by simp, fun a ha b hb e => ?_⟩
    rw [List.mem_singleton.mp hb] at e
    subst e
    obtain ⟨i, hi, ei⟩ := List.mem_iff_getElem.mp ha
    rw [List.getElem_drop] at ei
    have := (List.getElem_inj hnd).mp (ej.trans ei.symm)
    omega
  · rw [List.getElem?_drop] at h1 h2
    exact o.st (j + i) a b h1 (by rw [show j + i + 1 = j + (i + 1) by omega]; exact h2)
theorem ring_len {kn : List R3} {zs : List Str} (o : RingOk kn zs) (as : ∀ a b, Over kn a b → a ≠ b ∧ ¬ Over kn b a) : 4 ≤ zs.length := by
  obtain ⟨h1, h2, h3, h4⟩ := o
  match zs, h1, h2, h3, h4 with
  | [], h1, _, _, _ => simp at h1
  | [a], h1, _, _, _ => simp at h1
  | [a, b], _, h2, _, h4 =>
    have e : a = b := by simpa using h2
    exact absurd e (as a b (h4 0 a b rfl rfl)).1
  | [a, b, c], _, h2, _, h4 =>
    have e : a = c := by simpa using h2
    subst e
    exact absurd (h4 1 b a rfl rfl) (as a b (h4 0 a b rfl rfl)).2
  | a :: b :: c :: d :: r, _, _, _, _ => simp only [List.length_cons]; omega
/-- a ring has no ranks -/
theorem ring_rank {kn : List R3} {zs : List Str} (o : RingOk kn zs) : ¬ Ranked kn := by
  rintro ⟨r, hr⟩
  have key : ∀ (i : Nat) (a b : Str), zs[0]? = some a → zs[i]? = some b → r b + i ≤ r a := by
    intro i
    induction i with
    | zero => intro a b h1 h2; rw [h1] at h2; cases h2; omega
    | succ i ih =>
      intro a b h1 h2
      have hi : i < zs.length := by have := (List.getElem?_eq_some_iff.mp h2).1; omega
      have e := List.getElem?_eq_getElem hi
      have k1 := ih a _ h1 e
      have k2 := hr _ _ (o.st i _ b e h2)
      omega
  have h1 := o.ne
  have e := o.ends
  rw [List.head?_eq_getElem?, List.getLast?_eq_getElem?] at e
  have h0 : zs[0]? = some (zs[0]'(by omega)) := List.getElem?_eq_getElem _
  have := key (zs.length - 1) _ _ h0 (e ▸ h0)
  omega
end Y
namespace Y
variable [TabC]
open PySem L2 TL
local macro_rules
  | `(tactic| fail_if_success skip) => `(tactic| with_reducible refine And.intro (Eq.refl true) ?_)
local macro_rules
  | `(tactic| fail_if_success skip) => `(tactic| with_reducible refine onB_ff (by with_unfolding_all rfl) ?_)
local macro_rules
  | `(tactic| fail_if_success skip) => `(tactic| with_reducible refine onB_tt (by with_unfolding_all rfl) ?_)
local macro_rules
  | `(tactic| fail_if_success skip) => `(tactic| with_reducible refine onBl_b (by with_unfolding_all rfl) ?_)
local macro_rules
  | `(tactic| fail_if_success skip) => `(tactic| with_reducible refine onS_i (by with_unfolding_all rfl) ?_)
local macro_rules
  | `(tactic| fail_if_success skip) => `(tactic| with_reducible refine onI_i (by with_unfolding_all rfl) ?_)
local macro_rules
  | `(tactic| fail_if_success skip) => `(tactic| with_reducible refine PTo_ic (by with_unfolding_all rfl) ?_)
local macro_rules
  | `(tactic| fail_if_success skip) => `(tactic| with_reducible refine PTo_iY (by with_unfolding_all rfl) (by first | decide | assumption | omega) ?_)
local macro_rules
  | `(tactic| fail_if_success skip) => `(tactic| with_reducible refine PTo_n (by with_unfolding_all rfl) ?_)
local macro_rules
  | `(tactic| fail_if_success skip) => `(tactic| with_reducible refine PTo_s (by with_unfolding_all rfl) ?_)
local macro_rules
  | `(tactic| fail_if_success skip) => `(tactic| with_reducible refine PTo_s ix1f ?_)
local macro_rules
  | `(tactic| fail_if_success skip) => `(tactic| with_reducible refine PTo_s ix0f ?_)
local macro_rules
  | `(tactic| fail_if_success skip) => `(tactic| with_reducible refine PTo_s ix2t ?_)
local macro_rules
  | `(tactic| fail_if_success skip) => `(tactic| with_reducible refine PTo_s ix1l ?_)
local macro_rules
  | `(tactic| fail_if_success skip) => `(tactic| with_reducible refine PTo_s ix0l ?_)
local macro_rules
  | `(tactic| fail_if_success skip) => `(tactic| with_reducible refine PTo_s ix1t ?_)
local macro_rules
  | `(tactic| fail_if_success skip) => `(tactic| with_reducible refine PTo_s ix0t ?_)
local macro_rules
  | `(tactic| fail_if_success skip) => `(tactic| with_reducible refine OTo_i (by with_unfolding_all rfl) ?_)
local macro_rules
  | `(tactic| fail_if_success skip) => `(tactic| with_reducible refine STo_iteY (by first | decide | (simp only [List.length_cons, List.length_nil, List.length_append, List.length_map]; decide) | assumption | omega) ?_)
local macro_rules
  | `(tactic| fail_if_success skip) => `(tactic| with_reducible refine To_iteA ?_)
local macro_rules
  | `(tactic| fail_if_success skip) => `(tactic| with_reducible refine To_iteY (by first | decide | (simp only [List.length_cons, List.length_nil, List.length_append, List.length_map]; decide) | assumption | omega) ?_)
local macro_rules
  | `(tactic| fail_if_success skip) => `(tactic| with_reducible refine (rtV_o (by with_unfolding_all rfl) ?_))
local macro_rules
  | `(tactic| fail_if_success skip) => `(tactic| with_reducible refine (rtV_v (by with_unfolding_all rfl) ?_))
local macro_rules
  | `(tactic| fail_if_success skip) => `(tactic| with_reducible refine (rdV_o (by with_unfolding_all rfl) ?_))
local macro_rules
  | `(tactic| fail_if_success skip) => `(tactic| with_reducible refine (rdV_v (by with_unfolding_all rfl) ?_))
local macro_rules
  | `(tactic| fail_if_success skip) => `(tactic| with_reducible refine To_bindc ?_)
local macro_rules
  | `(tactic| fail_if_success skip) => `(tactic| with_reducible refine To_cMupkY (by with_unfolding_all rfl) ?_)
local macro_rules
  | `(tactic| fail_if_success skip) => `(tactic| with_reducible refine muFin_i (by with_unfolding_all rfl) (by with_unfolding_all rfl) ?_)
local macro_rules
  | `(tactic| fail_if_success skip) => `(tactic| with_reducible refine stFin_i (by with_unfolding_all rfl) (by with_unfolding_all rfl) ?_)
local macro_rules
  | `(tactic| fail_if_success skip) => `(tactic| with_reducible refine isF_and ?_)
local macro_rules
  | `(tactic| fail_if_success skip) => `(tactic| with_reducible refine Step.go ?_)
local macro_rules
  | `(tactic| bv_omega) => `(tactic| repeat (fail_if_success skip))
theorem ix_last {xs : List Str} {z : Str} : dIx (.lst ((xs ++ [z]).map D.str)) (.int (-1)) = .sh (.str z) := by
  have h : atI ((xs ++ [z]).map D.str) (-1) = some (.str z) := by
    unfold atI ixN
    have hl : ((xs ++ [z]).map D.str).length = xs.length + 1 := by simp
    rw [hl, if_neg (by decide), if_pos (by omega)]
    show ((xs ++ [z]).map D.str)[_]? = _
    rw [List.map_append, List.getElem?_append_right (by rw [List.length_map]; omega), List.length_map, show (-1 + ((xs.length + 1 : Nat) : Int)).toNat - xs.length = 0 by omega]
    rfl
  rw [dIx_l, h]
theorem cut_last {xs : List Str} {z : Str} : cutD ((xs ++ [z]).map D.str) none (some (-1)) = xs.map D.str := by
  rw [cutD_last, List.map_append, List.length_append, List.length_map]
  show List.take (xs.length + 1 - 1) _ = _
  rw [Nat.add_sub_cancel, List.take_left' (List.length_map ..)]
theorem kid_ex {kn : List R3} {L : List Str} {z : Str} (h : hasCh kn L z = true) : ∃ c r, (chS kn z).filter (fun c => decide (c ∈ L)) = c :: r ∧ Over kn z c ∧ c ∈ L := by
  obtain ⟨c, h1, h2⟩ := hasCh_iff.mp h
  have hm : c ∈ (chS kn z).filter (fun c => decide (c ∈ L)) := List.mem_filter.mpr ⟨chS_mem.mpr h1, decide_eq_true h2⟩
  cases e : (chS kn z).filter (fun c => decide (c ∈ L)) with
  | nil => rw [e] at hm; cases hm
  | cons d r =>
    have hd : d ∈ (chS kn z).filter (fun c => decide (c ∈ L)) := by rw [e]; exact List.mem_cons_self
    obtain ⟨h3, h4⟩ := List.mem_filter.mp hd
    exact ⟨d, r, rfl, chS_mem.mp h3, of_decide_eq_true h4⟩
theorem chS_len {kn : List R3} {z : Str} : (chS kn z).length ≤ kn.length := by
  unfold chS sortS
  rw [List.length_mergeSort, List.length_map]
  exact List.length_filter_le _ _
def inSB (L : List Str) : D → Bool
  | .str c => decide (c ∈ L)
  | _ => false
theorem inSB_map {L zs : List Str} : (zs.map D.str).filter (inSB L) = (zs.filter fun c => decide (c ∈ L)).map D.str := by
  rw [List.filter_map]; rfl
theorem cut_dropN {ds : List D} {j : Nat} (h1 : j ≤ ds.length) : cutD ds (some (j : Int)) none = ds.drop j := by
  unfold cutD
  rw [HT.sIx_nat, show HT.sIx ds.length ds.length none = ds.length from rfl, show min j ds.length = j by omega]
  refine List.take_of_length_le ?_
  simp
theorem place_ex {z : Str} : ∀ {xs : List Str}, z ∈ xs → ∃ j, placeS z xs = some j
  | [], h => absurd h List.not_mem_nil
  | y :: ys, h => by
    unfold placeS
    by_cases e : y = z
    · exact ⟨0, if_pos e⟩
    · rcases List.mem_cons.mp h with h | h
      · exact absurd h.symm e
      · obtain ⟨j, hj⟩ := place_ex h
        exact ⟨j + 1, by rw [if_neg e, hj]; rfl⟩
theorem place_app {z : Str} {zs : List Str} : ∀ {xs : List Str} {j : Nat}, placeS z xs = some j → placeS z (xs ++ zs) = some j
  | [], _, h => by cases h
  | y :: ys, j, h => by
    rw [List.cons_append]
    unfold placeS at h ⊢
    split at h
    · rename_i e; rw [if_pos e]; exact h
    · rename_i e
      rw [if_neg e]
      obtain ⟨i, hi, rfl⟩ := Option.map_eq_some_iff.mp h
      rw [place_app hi]; rfl
theorem strsOf_map : ∀ {zs : List Str}, strsOf (zs.map .str) = some zs
  | [] => rfl
  | z :: zs => by
    show (strsOf (zs.map D.str)).map (z :: ·) = _
    rw [strsOf_map]; rfl
theorem idx_row {xs : List Str} {z : Str} {j : Nat} (h : placeS z xs = some j) : dIndexL (.lst ((xs ++ [z]).map .str)) (.str z) = .sh (.int j) := by
  unfold dIndexL
  simp only [strsOf_map, place_app h]
theorem among_ok {kn : List R3} (o : KinOk kn) {L : List Str} {g : Gs} (hne : L ≠ []) (ha : AllCh kn L) (hL : L.length ≤ 800) (hLn : ∀ z ∈ L, nmS z = true) {K : D → Bool → Lc → Gs → Prop} (k : ∀ zs l, RingOk kn zs → K (.ref g.length) false l (g ++ [.box (.lst (zs.map .str))])) :
    (F_ring_among [kinD kn, .lst (L.map .str)] g).To K := by
  have hS : 100000 ≤ sizeLine := by decide
  obtain ⟨z0, L', rfl⟩ : ∃ z0 L', L = z0 :: L' := by
    cases L with
    | nil => exact absurd rfl hne
    | cons z0 L' => exact ⟨z0, L', rfl⟩
  unfold F_ring_among m_ring_among
  refine To_runDi rfl ?_
  bv_omega
  refine whl_rule (fun m l g' => g' = g ∧ ∃ xs z x3, RowOk kn (z0 :: L') (xs ++ [z]) ∧ m + xs.length = (z0 :: L').length + 1 ∧ l = [some (.val (kinD kn)), some (.val (.lst ((z0 :: L').map .str))), some (.own (.lst ((xs ++ [z]).map .str))), x3]) ?_ (m := (z0 :: L').length + 1) ⟨rfl, [], z0, _, RowOk.one List.mem_cons_self, rfl, rfl⟩ (by omega)
  rintro m l g' ⟨rfl, xs, z, x3, hr, hm, rfl⟩
  bv_omega
  have hzn : nmS z = true := hLn z (hr.sub z (by simp))
  have hxn : ∀ y ∈ xs, nmS y = true := fun y hy => hLn y (hr.sub y (by simp [hy]))
  refine PTo_s ix_last ?_
  bv_omega
  refine PTo_s (d := .bl (!decide (z ∈ xs))) (show PR.bl ((anyEq (.str z) (cutD ((xs ++ [z]).map D.str) none (some (-1)))).map (!·)) = _ by rw [cut_last, anyEq_s (strOk_nm hzn) hxn]; rfl) ?_
  bv_omega
  refine onB_ndec (fun hz => ?_) (fun hz => ?_)
  · bv_omega
    refine PTo_s ix_last ?_
    bv_omega
    refine (children_ok o).go fun _ => ?_
    bv_omega
    obtain ⟨c, r, ec, hov, hcL⟩ := kid_ex (ha z (hr.sub z (by simp)))
    have hlen := chS_len (kn := kn) (z := z)
    have hkl := o.len
    refine compL_filter (inSB (z0 :: L')) id ?_ (by simp only [List.length_nil, List.length_map]; omega) ?_
    · intro d hd
      obtain ⟨y, hy, rfl⟩ := List.mem_map.mp hd
      have hyn := (o.over (chS_mem.mp hy)).2
      bv_omega
      refine PTo_s (d := .bl (decide (y ∈ z0 :: L'))) (congrArg PR.bl (anyEq_s (strOk_nm hyn) hLn)) ?_
      bv_omega
      refine ⟨rfl, ?_⟩
      split
      · bv_omega
        exact ⟨rfl, rfl, rfl⟩
      · exact ⟨rfl, rfl⟩
    rw [inSB_map, ec, List.nil_append, List.map_id]
    bv_omega
    have hnd : (xs ++ [z]).Nodup := by
      have := hr.nd
      rw [List.dropLast_concat] at this
      rw [List.nodup_append]
      refine ⟨this, by simp, fun a ha b hb e => ?_⟩
      rw [List.mem_singleton.mp hb] at e
      exact hz (e ▸ ha)
    have hlx := nodup_sub_len hnd hr.sub
    simp only [List.length_append, List.length_cons, List.length_nil] at hlx hm hL
    refine OTo_i (muApp_ok (by simp only [List.length_map, List.length_append, List.length_cons, List.length_nil]; omega)) ?_
    bv_omega
    refine ⟨m - 1, by omega, rfl, xs ++ [z], c, x3, hr.next hz hov hcL, by simp only [List.length_append, List.length_cons, List.length_nil]; omega, ?_⟩
    rw [List.map_append (l₁ := xs ++ [z])]
    rfl
  · bv_omega
    refine PTo_s ix_last ?_
    bv_omega
    obtain ⟨j, ej⟩ := place_ex hz
    refine PTo_s (d := .int j) (idx_row ej) ?_
    bv_omega
    have hj := (placeS_ok ej).1
    have := k _ [] (hr.ring hj)
    rw [List.map_drop] at this
    rw [cut_dropN (by have := (List.getElem?_eq_some_iff.mp hj).1; simp only [List.length_map, List.length_append, List.length_cons, List.length_nil]; omega)]
    exact this
def rowA : D → D
  | .tup [a, _, _] => a
  | _ => .non
def hasD (kn : List R3) (L : List Str) : D → Bool
  | .str z => hasCh kn L z
  | _ => false
theorem hasD_map {kn : List R3} {L : List Str} : (L.map D.str).filter (hasD kn L) = (L.filter (hasCh kn L)).map D.str := by
  rw [List.filter_map]; rfl
theorem any_in (kn : List R3) (L : List Str) (z : Str) : ((chS kn z).map D.str).any (inSB L) = hasD kn L (.str z) := by
  rw [List.any_map]; rfl
/-- what elder_ring tells: None where there are ranks, else a ring, a new list -/
theorem elder_ok {kn : List R3} (o : KinOk kn) {g : Gs} {K : D → Bool → Lc → Gs → Prop} (k1 : ∀ l, Ranked kn → K .non false l g) (k2 : ∀ zs l, RingOk kn zs → K (.ref g.length) false l (g ++ [.box (.lst (zs.map .str))])) :
    (F_elder_ring [kinD kn] g).To K := by
  have hS : 100000 ≤ sizeLine := by decide
  have hkl := o.len
  unfold F_elder_ring m_elder_ring
  refine To_runDi rfl ?_
  unfold kinD
  bv_omega
  refine compL_map rowA ?_ (by simp only [List.length_nil, List.length_map]; omega) ?_
  · intro d hd
    obtain ⟨r, hr, rfl⟩ := List.mem_map.mp hd
    bv_omega
    exact ⟨rfl, rfl, rfl⟩
  bv_omega
  refine compL_map rowB ?_ (by simp only [List.length_nil, List.length_map]; omega) ?_
  · intro d hd
    obtain ⟨r, hr, rfl⟩ := List.mem_map.mp hd
    bv_omega
    exact ⟨rfl, rfl, rfl⟩
  rw [List.nil_append, List.nil_append]
  bv_omega
  have e1 : List.map rowA (List.map rD kn) ++ List.map rowB (List.map rD kn) = (kn.map (·.1) ++ kn.map (·.2.1)).map D.str := by
    rw [List.map_append, List.map_map, List.map_map, List.map_map, List.map_map]
    rfl
  refine ⟨by show (List.map rowA (List.map rD kn)).length + (List.map rowB (List.map rD kn)).length ≤ sizeLine; simp only [List.length_map]; omega, ?_⟩
  show (PR.nw (D.lst (List.map rowA (List.map rD kn) ++ List.map rowB (List.map rD kn)))).To _
  rw [e1]
  bv_omega
  have h8 : (kn.map (·.1) ++ kn.map (·.2.1)).length ≤ 800 := by rw [List.length_append, List.length_map, List.length_map]; omega
  refine PTo_n (dSortSet_l (by omega)) ?_
  bv_omega
  have hLn : ∀ z ∈ hsS kn, nmS z = true := fun z hz => by
    obtain ⟨r, hr, rfl | rfl⟩ := hsS_mem.mp hz
    · exact o.one r hr
    · exact o.two r hr
  have hLl : (hsS kn).length ≤ 800 := by
    unfold hsS sortS
    rw [List.length_mergeSort]
    exact Nat.le_trans uniqS_len h8
  refine whl_rule (fun m l g' => g' = g ∧ ∃ L ow x2 x3 x4 x5, LeftOk kn L ∧ (∀ z ∈ L, nmS z = true) ∧ L.length ≤ 800 ∧ m = L.length ∧ l = [some (.val (.tup (kn.map rD))), some (sv (.lst (L.map .str)) ow), x2, x3, x4, x5]) ?_ (m := (hsS kn).length) ⟨rfl, hsS kn, true, _, _, _, _, left0, hLn, hLl, rfl, rfl⟩ (by omega)
  rintro m l g' ⟨rfl, L, ow, x2, x3, x4, x5, hL, hn, hl, rfl, rfl⟩
  cases ow
  all_goals
    bv_omega
    refine onB_dec (fun h0 => ?_) (fun h0 => ?_)
    · bv_omega
      refine compL_filter (hasD kn L) id ?_ (by simp only [List.length_nil, List.length_map]; omega) ?_
      · intro d hd
        obtain ⟨z, hz, rfl⟩ := List.mem_map.mp hd
        bv_omega
        refine (children_ok o).go fun _ => ?_
        bv_omega
        have hlen := chS_len (kn := kn) (z := z)
        refine compL_map (fun d => .bl (inSB L d)) ?_ (by simp only [List.length_nil, List.length_map]; omega) ?_
        · intro d hd
          obtain ⟨y, hy, rfl⟩ := List.mem_map.mp hd
          have hyn := (o.over (chS_mem.mp hy)).2
          bv_omega
          refine PTo_s (d := .bl (decide (y ∈ L))) (congrArg PR.bl (anyEq_s (strOk_nm hyn) hn)) ?_
          bv_omega
          exact ⟨rfl, rfl, rfl⟩
        · bv_omega
          refine PTo_s (dAny_map _ _) ?_
          bv_omega
          refine ⟨congrArg D.bl (any_in kn L z), ?_⟩
          split
          · bv_omega
            exact ⟨rfl, rfl, rfl⟩
          · exact ⟨rfl, rfl⟩
      · rw [hasD_map, List.nil_append, List.map_id]
        bv_omega
        refine To_cIfS.mpr ?_
        bv_omega
        have hfl := List.length_filter_le (hasCh kn L) L
        refine onB_dec (fun h1 => ?_) (fun h1 => ?_)
        · simp only [List.length_map] at h0 h1
          bv_omega
          refine among_ok (kn := kn) (L := L) o ?_ (allCh_of (by omega)) hl hn fun zs l hr => ?_
          · rintro rfl
            simp at h0
          bv_omega
          exact k2 zs _ hr
        · simp only [List.length_map] at h0 h1
          bv_omega
          exact ⟨_, by omega, rfl, _, false, _, _, _, _, left_step hL, fun z hz => hn z (List.mem_filter.mp hz).1, by omega, rfl, rfl⟩
    · bv_omega
      have hz : L = [] := by
        simp only [List.length_map] at h0
        exact List.length_eq_zero_iff.mp (by omega)
      subst hz
      exact k1 _ (left_nil hL)
end Y
namespace Y
variable [TabC]
open PySem L2 TL
local macro_rules
  | `(tactic| fail_if_success skip) => `(tactic| with_reducible refine And.intro (Eq.refl true) ?_)
local macro_rules
  | `(tactic| fail_if_success skip) => `(tactic| with_reducible refine onB_ff (by with_unfolding_all rfl) ?_)
local macro_rules
  | `(tactic| fail_if_success skip) => `(tactic| with_reducible refine onB_tt (by with_unfolding_all rfl) ?_)
local macro_rules
  | `(tactic| fail_if_success skip) => `(tactic| with_reducible refine onBl_b (by with_unfolding_all rfl) ?_)
local macro_rules
  | `(tactic| fail_if_success skip) => `(tactic| with_reducible refine onS_i (by with_unfolding_all rfl) ?_)
local macro_rules
  | `(tactic| fail_if_success skip) => `(tactic| with_reducible refine onI_i (by with_unfolding_all rfl) ?_)
local macro_rules
  | `(tactic| fail_if_success skip) => `(tactic| with_reducible refine PTo_ic (by with_unfolding_all rfl) ?_)
local macro_rules
  | `(tactic| fail_if_success skip) => `(tactic| with_reducible refine PTo_iY (by with_unfolding_all rfl) (by first | decide | assumption | omega) ?_)
local macro_rules
  | `(tactic| fail_if_success skip) => `(tactic| with_reducible refine PTo_n (by with_unfolding_all rfl) ?_)
local macro_rules
  | `(tactic| fail_if_success skip) => `(tactic| with_reducible refine PTo_s (by with_unfolding_all rfl) ?_)
local macro_rules
  | `(tactic| fail_if_success skip) => `(tactic| with_reducible refine PTo_s ix1f ?_)
local macro_rules
  | `(tactic| fail_if_success skip) => `(tactic| with_reducible refine PTo_s ix0f ?_)
local macro_rules
  | `(tactic| fail_if_success skip) => `(tactic| with_reducible refine PTo_s ix2t ?_)
local macro_rules
  | `(tactic| fail_if_success skip) => `(tactic| with_reducible refine PTo_s ix1l ?_)
local macro_rules
  | `(tactic| fail_if_success skip) => `(tactic| with_reducible refine PTo_s ix0l ?_)
local macro_rules
  | `(tactic| fail_if_success skip) => `(tactic| with_reducible refine PTo_s ix1t ?_)
local macro_rules
  | `(tactic| fail_if_success skip) => `(tactic| with_reducible refine PTo_s ix0t ?_)
local macro_rules
  | `(tactic| fail_if_success skip) => `(tactic| with_reducible refine OTo_i (by with_unfolding_all rfl) ?_)
local macro_rules
  | `(tactic| fail_if_success skip) => `(tactic| with_reducible refine STo_iteY (by first | decide | (simp only [List.length_cons, List.length_nil, List.length_append, List.length_map]; decide) | assumption | omega) ?_)
local macro_rules
  | `(tactic| fail_if_success skip) => `(tactic| with_reducible refine To_iteA ?_)
local macro_rules
  | `(tactic| fail_if_success skip) => `(tactic| with_reducible refine To_iteY (by first | decide | (simp only [List.length_cons, List.length_nil, List.length_append, List.length_map]; decide) | assumption | omega) ?_)
local macro_rules
  | `(tactic| fail_if_success skip) => `(tactic| with_reducible refine (rtV_o (by with_unfolding_all rfl) ?_))
local macro_rules
  | `(tactic| fail_if_success skip) => `(tactic| with_reducible refine (rtV_v (by with_unfolding_all rfl) ?_))
local macro_rules
  | `(tactic| fail_if_success skip) => `(tactic| with_reducible refine (rdV_o (by with_unfolding_all rfl) ?_))
local macro_rules
  | `(tactic| fail_if_success skip) => `(tactic| with_reducible refine (rdV_v (by with_unfolding_all rfl) ?_))
local macro_rules
  | `(tactic| fail_if_success skip) => `(tactic| with_reducible refine To_bindc ?_)
local macro_rules
  | `(tactic| fail_if_success skip) => `(tactic| with_reducible refine To_cMupkY (by with_unfolding_all rfl) ?_)
local macro_rules
  | `(tactic| fail_if_success skip) => `(tactic| with_reducible refine muFin_i (by with_unfolding_all rfl) (by with_unfolding_all rfl) ?_)
local macro_rules
  | `(tactic| fail_if_success skip) => `(tactic| with_reducible refine stFin_i (by with_unfolding_all rfl) (by with_unfolding_all rfl) ?_)
local macro_rules
  | `(tactic| fail_if_success skip) => `(tactic| with_reducible refine isF_and ?_)
local macro_rules
  | `(tactic| fail_if_success skip) => `(tactic| with_reducible refine Step.go ?_)
local macro_rules
  | `(tactic| bv_omega) => `(tactic| repeat (fail_if_success skip))
/-! ### the law's peeling -/
def peel (Y : List R3) : List R3 := Y.filter fun r => decide (r.1 ∈ Y.map (·.2.1))
structure PeelOk (kn X : List R3) (many : Nat) : Prop where
  sub : ∀ r ∈ X, r ∈ kn ∧ overB r = true
  ring : ∀ zs, RingOk kn zs → ∀ i a b, zs[i]? = some a → zs[i + 1]? = some b → (a, b, ("over" : Str)) ∈ X
  was : many = X.length + 1 ∨ ∃ Y, many = Y.length ∧ X = peel Y ∧ ∀ r ∈ Y, r ∈ kn ∧ overB r = true
theorem over_eq {r : R3} (h : overB r = true) : r = (r.1, r.2.1, ("over" : Str)) := by
  obtain ⟨a, b, w⟩ := r
  have : w = "over" := of_decide_eq_true h
  rw [this]
theorem peel0 {kn : List R3} : PeelOk kn (kn.filter overB) ((kn.filter overB).length + 1) where
  sub := fun r hr => List.mem_filter.mp hr
  ring := fun zs o i a b h1 h2 => List.mem_filter.mpr ⟨o.st i a b h1 h2, rfl⟩
  was := .inl rfl
theorem peel_step {kn X : List R3} {many : Nat} (h : PeelOk kn X many) : PeelOk kn (peel X) X.length where
  sub := fun r hr => h.sub r (List.mem_filter.mp hr).1
  ring := fun zs o i a b h1 h2 => by
    refine List.mem_filter.mpr ⟨h.ring zs o i a b h1 h2, decide_eq_true ?_⟩
    have hn := o.ne
    cases i with
    | succ i =>
      have hi : i < zs.length := by have := (List.getElem?_eq_some_iff.mp h1).1; omega
      exact List.mem_map.mpr ⟨_, h.ring zs o i _ a (List.getElem?_eq_getElem hi) h1, rfl⟩
    | zero =>
      have e := o.ends
      rw [List.head?_eq_getElem?, List.getLast?_eq_getElem?, h1] at e
      have hi : zs.length - 2 < zs.length := by omega
      exact List.mem_map.mpr ⟨_, h.ring zs o (zs.length - 2) _ a (List.getElem?_eq_getElem hi) (by rw [show zs.length - 2 + 1 = zs.length - 1 by omega]; exact e.symm), rfl⟩
  was := .inr ⟨X, rfl, rfl, h.sub⟩
theorem top_row {r : Str → Nat} : ∀ {Y : List R3}, Y ≠ [] → ∃ q ∈ Y, ∀ p ∈ Y, r p.1 ≤ r q.1
  | [], h => absurd rfl h
  | [q], _ => ⟨q, List.mem_cons_self, fun p hp => by rw [List.mem_singleton.mp hp]; exact Nat.le_refl _⟩
  | q :: q' :: Y, _ => by
    obtain ⟨t, ht, hm⟩ := top_row (r := r) (Y := q' :: Y) (by simp)
    by_cases hc : r t.1 ≤ r q.1
    · exact ⟨q, List.mem_cons_self, fun p hp => by
        rcases List.mem_cons.mp hp with rfl | hp
        · exact Nat.le_refl _
        · exact Nat.le_trans (hm p hp) hc⟩
    · exact ⟨t, List.mem_cons_of_mem _ ht, fun p hp => by
        rcases List.mem_cons.mp hp with rfl | hp
        · omega
        · exact hm p hp⟩
theorem peel_end {kn X : List R3} {many : Nat} (h : PeelOk kn X many) (hl : ¬ X.length < many) (hr : Ranked kn) : X = [] := by
  rcases h.was with h1 | ⟨Y, h1, h2, h3⟩
  · omega
  · have hf : (Y.filter fun r => decide (r.1 ∈ Y.map (·.2.1))).length = Y.length := by
      have := List.length_filter_le (fun r : R3 => decide (r.1 ∈ Y.map (·.2.1))) Y
      have e : X.length = (Y.filter fun r => decide (r.1 ∈ Y.map (·.2.1))).length := by rw [h2]; rfl
      omega
    have ha := List.length_filter_eq_length_iff.mp hf
    obtain ⟨r, hr⟩ := hr
    by_cases hY : Y = []
    · rw [h2, hY]; rfl
    · obtain ⟨q, hq, hm⟩ := top_row (r := r) hY
      obtain ⟨p, hp, ep⟩ := List.mem_map.mp (of_decide_eq_true (ha q hq))
      have h4 := h3 p hp
      have h5 : Over kn p.1 p.2.1 := by
        have := over_eq h4.2
        unfold Over
        rw [← this]; exact h4.1
      have h6 := hr _ _ h5
      have h7 := hm p hp
      have h8 : r q.1 < r p.1 := by rw [← show p.2.1 = q.1 from ep]; exact h6
      omega
theorem peel_ring {kn X : List R3} {many : Nat} (h : PeelOk kn X many) {zs : List Str} (o : RingOk kn zs) : X ≠ [] := by
  have hn := o.ne
  have := h.ring zs o 0 _ _ (List.getElem?_eq_getElem (by omega)) (List.getElem?_eq_getElem (by omega))
  exact List.ne_nil_of_mem this
def rowW : D → Bool
  | .tup [_, _, .str w] => decide (w = ("over" : Str))
  | _ => false
theorem rowW_map {kn : List R3} : (kn.map rD).filter rowW = (kn.filter overB).map rD := by
  rw [List.filter_map]; rfl
def rowI (X : List R3) : D → Bool
  | .tup [.str a, _, _] => decide (a ∈ X.map (·.2.1))
  | _ => false
theorem rowI_map {X : List R3} : (X.map rD).filter (rowI X) = (peel X).map rD := by
  rw [List.filter_map]; rfl
theorem rowB_map {X : List R3} : (X.map rD).map rowB = (X.map (·.2.1)).map .str := by
  rw [List.map_map, List.map_map]; rfl
theorem KinOk.word_ok {kn : List R3} (o : KinOk kn) {r : R3} (h : r ∈ kn) : PyData.strOk r.1 = true ∧ PyData.strOk r.2.1 = true ∧ PyData.strOk r.2.2 = true := by
  refine ⟨strOk_nm (o.one r h), strOk_nm (o.two r h), ?_⟩
  rcases o.word r h with e | e <;> rw [e] <;> decide +kernel
theorem rD_nice {r : R3} (h : PyData.strOk r.1 = true ∧ PyData.strOk r.2.1 = true ∧ PyData.strOk r.2.2 = true) : (rD r).nice = true := by
  simp only [D.nice, D.niceL, Bool.and_true, Bool.and_eq_true]
  exact h
theorem rows_nice : ∀ {X : List R3}, (∀ r ∈ X, PyData.strOk r.1 = true ∧ PyData.strOk r.2.1 = true ∧ PyData.strOk r.2.2 = true) → D.niceL (X.map rD) = true ∧ D.depL (X.map rD) ≤ 1
  | [], _ => ⟨rfl, Nat.zero_le _⟩
  | r :: X, h => by
    have h1 := rows_nice fun q hq => h q (List.mem_cons_of_mem _ hq)
    simp only [List.map_cons, D.niceL, D.depL, Bool.and_eq_true]
    have h3 : (rD r).dep = 1 := by simp [D.dep, D.depL]
    exact ⟨⟨rD_nice (h r List.mem_cons_self), h1.1⟩, by rw [h3]; exact Nat.max_le.mpr ⟨Nat.le_refl _, h1.2⟩⟩
theorem peeled_ok {kn : List R3} (o : KinOk kn) {g : Gs} {K : D → Bool → Lc → Gs → Prop} (k : ∀ b l, (Ranked kn → b = true) → (∀ zs, RingOk kn zs → b = false) → K (.bl b) false l g) : (F__law_peeled [kinD kn] g).To K := by
  have hS : 100000 ≤ sizeLine := by decide
  have hkl := o.len
  unfold F__law_peeled m__law_peeled
  refine To_runDi rfl ?_
  unfold kinD
  bv_omega
  refine compL_filter rowW id ?_ (by simp only [List.length_nil, List.length_map]; omega) ?_
  · intro d hd
    obtain ⟨⟨a, b, w⟩, hr, rfl⟩ := List.mem_map.mp hd
    bv_omega
    refine ⟨rfl, ?_⟩
    split
    · bv_omega
      exact ⟨rfl, rfl, rfl⟩
    · exact ⟨rfl, rfl⟩
  rw [List.nil_append, List.map_id]
  have e1 : List.filter rowW (List.map rD kn) = (kn.filter overB).map rD := rowW_map
  show (cSq _ _ _ _).To _ _ _ _
  rw [show List.filter rowW (List.map rD kn, (none : Option Nat)).fst = (kn.filter overB).map rD from e1]
  bv_omega
  have hfl := List.length_filter_le overB kn
  refine whl_rule (fun m l g' => g' = g ∧ ∃ X q x3 x4, PeelOk kn X m ∧ q = (m : Int) ∧ X.length ≤ 400 ∧ l = [some (.val (.tup (kn.map rD))), some (.own (.lst (X.map rD))), some (.val (.int q)), x3, x4]) ?_ (m := (kn.filter overB).length + 1) ⟨rfl, kn.filter overB, _, _, _, peel0, by simp only [List.length_map]; omega, by omega, rfl⟩ (by omega)
  rintro m l g' ⟨rfl, X, q, x3, x4, hX, rfl, hl, rfl⟩
  bv_omega
  refine onB_dec (fun h0 => ?_) (fun h0 => ?_)
  · simp only [List.length_map] at h0
    bv_omega
    refine compL_map rowB ?_ (by simp only [List.length_nil, List.length_map]; omega) ?_
    · intro d hd
      obtain ⟨r, hr, rfl⟩ := List.mem_map.mp hd
      bv_omega
      exact ⟨rfl, rfl, rfl⟩
    rw [List.nil_append, rowB_map]
    bv_omega
    refine compL_filter (rowI X) id ?_ (by simp only [List.length_nil, List.length_map]; omega) ?_
    · intro d hd
      obtain ⟨r, hr, rfl⟩ := List.mem_map.mp hd
      have hrn := o.one r (hX.sub r hr).1
      have hbn : ∀ z ∈ X.map (·.2.1), nmS z = true := fun z hz => by
        obtain ⟨p, hp, rfl⟩ := List.mem_map.mp hz
        exact o.two p (hX.sub p hp).1
      bv_omega
      refine PTo_s (d := .bl (decide (r.1 ∈ X.map fun p : R3 => p.2.1))) (congrArg PR.bl (anyEq_s (strOk_nm hrn) hbn)) ?_
      bv_omega
      refine ⟨rfl, ?_⟩
      split
      · bv_omega
        exact ⟨rfl, rfl, rfl⟩
      · exact ⟨rfl, rfl⟩
    rw [List.nil_append, List.map_id, rowI_map]
    bv_omega
    have hpl : (peel X).length ≤ X.length := List.length_filter_le _ _
    exact ⟨X.length, by omega, rfl, peel X, _, _, _, peel_step hX, by rw [List.length_map], by omega, rfl⟩
  · simp only [List.length_map] at h0
    bv_omega
    have hn := rows_nice fun r hr => o.word_ok (hX.sub r hr).1
    refine PTo_s (d := .bl (decide (D.lst (X.map rD) = D.lst []))) (congrArg PR.bl (show eqGen (.lst (X.map rD)) (.lst []) = _ from if_pos ?_)) ?_
    · simp only [Bool.and_eq_true, decide_eq_true_eq]
      refine ⟨⟨⟨hn.1, rfl⟩, ?_⟩, by decide⟩
      show D.depL (X.map rD) + 1 ≤ 64
      omega
    refine k _ _ (fun hr => ?_) (fun zs hz => ?_)
    · rw [peel_end hX (by omega) hr]
      exact decide_eq_true rfl
    · refine decide_eq_false fun e => peel_ring hX hz ?_
      exact List.map_eq_nil_iff.mp (by injection e)
end Y
namespace Y
variable [TabC]
open PySem L2 TL
local macro_rules
  | `(tactic| fail_if_success skip) => `(tactic| with_reducible refine And.intro (Eq.refl true) ?_)
local macro_rules
  | `(tactic| fail_if_success skip) => `(tactic| with_reducible refine onB_ff (by with_unfolding_all rfl) ?_)
local macro_rules
  | `(tactic| fail_if_success skip) => `(tactic| with_reducible refine onB_tt (by with_unfolding_all rfl) ?_)
local macro_rules
  | `(tactic| fail_if_success skip) => `(tactic| with_reducible refine onBl_b (by with_unfolding_all rfl) ?_)
local macro_rules
  | `(tactic| fail_if_success skip) => `(tactic| with_reducible refine onS_i (by with_unfolding_all rfl) ?_)
local macro_rules
  | `(tactic| fail_if_success skip) => `(tactic| with_reducible refine onI_i (by with_unfolding_all rfl) ?_)
local macro_rules
  | `(tactic| fail_if_success skip) => `(tactic| with_reducible refine PTo_ic (by with_unfolding_all rfl) ?_)
local macro_rules
  | `(tactic| fail_if_success skip) => `(tactic| with_reducible refine PTo_iY (by with_unfolding_all rfl) (by first | decide | assumption | omega) ?_)
local macro_rules
  | `(tactic| fail_if_success skip) => `(tactic| with_reducible refine PTo_n (by with_unfolding_all rfl) ?_)
local macro_rules
  | `(tactic| fail_if_success skip) => `(tactic| with_reducible refine PTo_s (by with_unfolding_all rfl) ?_)
local macro_rules
  | `(tactic| fail_if_success skip) => `(tactic| with_reducible refine PTo_s ix1f ?_)
local macro_rules
  | `(tactic| fail_if_success skip) => `(tactic| with_reducible refine PTo_s ix0f ?_)
local macro_rules
  | `(tactic| fail_if_success skip) => `(tactic| with_reducible refine PTo_s ix2t ?_)
local macro_rules
  | `(tactic| fail_if_success skip) => `(tactic| with_reducible refine PTo_s ix1l ?_)
local macro_rules
  | `(tactic| fail_if_success skip) => `(tactic| with_reducible refine PTo_s ix0l ?_)
local macro_rules
  | `(tactic| fail_if_success skip) => `(tactic| with_reducible refine PTo_s ix1t ?_)
local macro_rules
  | `(tactic| fail_if_success skip) => `(tactic| with_reducible refine PTo_s ix0t ?_)
local macro_rules
  | `(tactic| fail_if_success skip) => `(tactic| with_reducible refine OTo_i (by with_unfolding_all rfl) ?_)
local macro_rules
  | `(tactic| fail_if_success skip) => `(tactic| with_reducible refine STo_iteY (by first | decide | (simp only [List.length_cons, List.length_nil, List.length_append, List.length_map]; decide) | assumption | omega) ?_)
local macro_rules
  | `(tactic| fail_if_success skip) => `(tactic| with_reducible refine To_iteA ?_)
local macro_rules
  | `(tactic| fail_if_success skip) => `(tactic| with_reducible refine To_iteY (by first | decide | (simp only [List.length_cons, List.length_nil, List.length_append, List.length_map]; decide) | assumption | omega) ?_)
local macro_rules
  | `(tactic| fail_if_success skip) => `(tactic| with_reducible refine (rtV_o (by with_unfolding_all rfl) ?_))
local macro_rules
  | `(tactic| fail_if_success skip) => `(tactic| with_reducible refine (rtV_v (by with_unfolding_all rfl) ?_))
local macro_rules
  | `(tactic| fail_if_success skip) => `(tactic| with_reducible refine (rdV_o (by with_unfolding_all rfl) ?_))
local macro_rules
  | `(tactic| fail_if_success skip) => `(tactic| with_reducible refine (rdV_v (by with_unfolding_all rfl) ?_))
local macro_rules
  | `(tactic| fail_if_success skip) => `(tactic| with_reducible refine To_bindc ?_)
local macro_rules
  | `(tactic| fail_if_success skip) => `(tactic| with_reducible refine To_cMupkY (by with_unfolding_all rfl) ?_)
local macro_rules
  | `(tactic| fail_if_success skip) => `(tactic| with_reducible refine muFin_i (by with_unfolding_all rfl) (by with_unfolding_all rfl) ?_)
local macro_rules
  | `(tactic| fail_if_success skip) => `(tactic| with_reducible refine stFin_i (by with_unfolding_all rfl) (by with_unfolding_all rfl) ?_)
local macro_rules
  | `(tactic| fail_if_success skip) => `(tactic| with_reducible refine isF_and ?_)
local macro_rules
  | `(tactic| fail_if_success skip) => `(tactic| with_reducible refine Step.go ?_)
local macro_rules
  | `(tactic| bv_omega) => `(tactic| repeat (fail_if_success skip))
/-! ### the law's rows -/
/-- no row there and back, none of a house with itself -/
def Asym (rs : List R3) : Prop := ∀ a b, Over rs a b → a ≠ b ∧ ¬ Over rs b a
structure RowsOk (zs : List Str) (rs : List R3) : Prop where
  one : ∀ r ∈ rs, r.1 ∈ zs
  two : ∀ r ∈ rs, r.2.1 ∈ zs
  word : ∀ r ∈ rs, r.2.2 = "over" ∨ r.2.2 = "equal"
  asy : Asym rs
def mm (a b : Str) : P2S := (if ltS b a then b else a, if ltS a b then b else a)
theorem mm_ok {a b : Str} (h : a ≠ b) : ltS (mm a b).1 (mm a b).2 ∧ ((mm a b).1 = a ∧ (mm a b).2 = b ∨ (mm a b).1 = b ∧ (mm a b).2 = a) := by
  unfold mm
  rcases ltS_tri a b with h1 | h1 | h1
  · simp only [if_pos h1, if_neg (ltS_asym h1)]; exact ⟨h1, .inl ⟨trivial, trivial⟩⟩
  · exact absurd h1 h
  · simp only [if_pos h1, if_neg (ltS_asym h1)]; exact ⟨h1, .inr ⟨trivial, trivial⟩⟩
theorem mm_comm {a b : Str} (h : a ≠ b) : mm a b = mm b a := by
  obtain ⟨h1, h2⟩ := mm_ok h
  obtain ⟨h3, h4⟩ := mm_ok (Ne.symm h)
  have e1 : mm a b = ((mm a b).1, (mm a b).2) := rfl
  have e2 : mm b a = ((mm b a).1, (mm b a).2) := rfl
  rcases h2 with ⟨p, q⟩ | ⟨p, q⟩ <;> rcases h4 with ⟨p', q'⟩ | ⟨p', q'⟩
  · rw [p, q] at h1; rw [p', q'] at h3; exact absurd h3 (ltS_asym h1)
  · rw [e1, e2, p, q, p', q']
  · rw [e1, e2, p, q, p', q']
  · rw [p, q] at h1; rw [p', q'] at h3; exact absurd h3 (ltS_asym h1)
theorem mm_mm {a b : Str} (h : a ≠ b) : mm (mm a b).1 (mm a b).2 = mm a b := by
  obtain ⟨h1, h2⟩ := mm_ok h
  have e1 : mm a b = ((mm a b).1, (mm a b).2) := rfl
  rcases h2 with ⟨p, q⟩ | ⟨p, q⟩
  · rw [p, q]
  · rw [p, q]; exact mm_comm (Ne.symm h)
theorem pD_inj {p q : P2S} (h : pD p = pD q) : p = q := by
  obtain ⟨a, b⟩ := p; obtain ⟨c, d⟩ := q
  simp only [pD, D.tup.injEq, List.cons.injEq, D.str.injEq] at h
  rw [h.1, h.2.1]
/-- the dict of rows, by their twos -/
def ksD (ks : List (P2S × R3)) : List (D × D) := ks.map fun p => (pD p.1, rD p.2)
structure KeysOk (zs : List Str) (ks : List (P2S × R3)) : Prop where
  nd : (ks.map (·.1)).Nodup
  key : ∀ p ∈ ks, p.2.1 ≠ p.2.2.1 ∧ p.1 = mm p.2.1 p.2.2.1
  one : ∀ p ∈ ks, p.2.1 ∈ zs
  two : ∀ p ∈ ks, p.2.2.1 ∈ zs
  word : ∀ p ∈ ks, p.2.2.2 = "over" ∨ p.2.2.2 = "equal"
theorem KeysOk.rows {zs : List Str} {ks : List (P2S × R3)} (o : KeysOk zs ks) : RowsOk zs (ks.map (·.2)) where
  one := fun r hr => by obtain ⟨p, hp, rfl⟩ := List.mem_map.mp hr; exact o.one p hp
  two := fun r hr => by obtain ⟨p, hp, rfl⟩ := List.mem_map.mp hr; exact o.two p hp
  word := fun r hr => by obtain ⟨p, hp, rfl⟩ := List.mem_map.mp hr; exact o.word p hp
  asy := fun a b h => by
    obtain ⟨p, hp, e⟩ := List.mem_map.mp h
    have k1 := o.key p hp
    rw [e] at k1
    refine ⟨k1.1, fun h' => ?_⟩
    obtain ⟨q, hq, e'⟩ := List.mem_map.mp h'
    have k2 := o.key q hq
    rw [e'] at k2
    have hk : p.1 = q.1 := by rw [k1.2, k2.2]; exact mm_comm k1.1
    have : p = q := by
      obtain ⟨i, hi, ei⟩ := List.mem_iff_getElem.mp hp
      obtain ⟨j, hj, ej⟩ := List.mem_iff_getElem.mp hq
      have h3 : (ks.map (·.1))[i]'(by simpa using hi) = (ks.map (·.1))[j]'(by simpa using hj) := by
        rw [List.getElem_map, List.getElem_map, ei, ej]; exact hk
      have h4 : i = j := (List.getElem_inj o.nd).mp h3
      subst h4
      exact ei.symm.trans ej
    subst this
    rw [e] at e'
    cases e'
    exact k1.1 rfl
theorem KeysOk.put {zs : List Str} {ks : List (P2S × R3)} (o : KeysOk zs ks) {a b : Str} (ha : a ∈ zs) (hb : b ∈ zs) (hne : a ≠ b) (hn : mm a b ∉ ks.map (·.1)) {r : R3} (hr : r = (a, b, ("over" : Str)) ∨ r = ((mm a b).1, (mm a b).2, ("equal" : Str))) : KeysOk zs (ks ++ [(mm a b, r)]) := by
  have hab := mm_ok hne
  have h3 : r.1 ∈ zs ∧ r.2.1 ∈ zs ∧ r.1 ≠ r.2.1 ∧ mm a b = mm r.1 r.2.1 ∧ (r.2.2 = "over" ∨ r.2.2 = "equal") := by
    rcases hr with rfl | rfl
    · exact ⟨ha, hb, hne, rfl, .inl rfl⟩
    · refine ⟨?_, ?_, fun e => ?_, (mm_mm hne).symm, .inr rfl⟩
      · rcases hab.2 with ⟨p, q⟩ | ⟨p, q⟩
        · show (mm a b).1 ∈ zs; rw [p]; exact ha
        · show (mm a b).1 ∈ zs; rw [p]; exact hb
      · rcases hab.2 with ⟨p, q⟩ | ⟨p, q⟩
        · show (mm a b).2 ∈ zs; rw [q]; exact hb
        · show (mm a b).2 ∈ zs; rw [q]; exact ha
      · have h1 := hab.1
        have e : (mm a b).1 = (mm a b).2 := e
        rw [e] at h1
        exact ltS_irr _ h1
  have mem : ∀ {P : P2S × R3 → Prop}, (∀ p ∈ ks, P p) → P (mm a b, r) → ∀ p ∈ ks ++ [(mm a b, r)], P p := fun h1 h2 p hp => by
    rcases List.mem_append.mp hp with hp | hp
    · exact h1 p hp
    · rw [List.mem_singleton.mp hp]; exact h2
  refine ⟨?_, mem o.key ⟨h3.2.2.1, h3.2.2.2.1⟩, mem o.one h3.1, mem o.two h3.2.1, mem o.word h3.2.2.2.2⟩
  rw [List.map_append, List.nodup_append]
  refine ⟨o.nd, by simp, fun x hx y hy e => ?_⟩
  rw [List.mem_singleton.mp hy] at e
  exact hn (by have e : x = mm a b := e; rw [← e]; exact hx)
theorem any_key {ks : List (P2S × R3)} {q : P2S} : ((ksD ks).any fun p => decide (p.1 = pD q)) = decide (q ∈ ks.map (·.1)) := by
  unfold ksD
  rw [List.any_map]
  refine (Bool.eq_iff_iff).mpr ?_
  rw [List.any_eq_true, decide_eq_true_eq, List.mem_map]
  constructor
  · rintro ⟨p, hp, e⟩
    exact ⟨p, hp, pD_inj (of_decide_eq_true e)⟩
  · rintro ⟨p, hp, rfl⟩
    exact ⟨p, hp, decide_eq_true rfl⟩
theorem getD_key {ks : List (P2S × R3)} {q : P2S} : (getD (ksD ks) (pD q)).isSome = decide (q ∈ ks.map (·.1)) := by
  rw [← any_key]
  unfold getD
  rw [Option.isSome_map]
  refine (Bool.eq_iff_iff).mpr ?_
  rw [List.find?_isSome, List.any_eq_true]
theorem nin_keys {ks : List (P2S × R3)} {q : P2S} : dNin (pD q) (.dcu (ksD ks)) = .sh (.bl (!decide (q ∈ ks.map (·.1)))) := by
  rw [← getD_key]
  rfl
theorem put_key {ks : List (P2S × R3)} {q : P2S} {r : R3} (hl : ks.length ≤ 1000) (hn : q ∉ ks.map (·.1)) : putIx (.dcu (ksD ks)) (pD q) (rD r) = some (.dcu (ksD (ks ++ [(q, r)]))) := by
  show (if (tkOf (pD q)).isSome = true ∧ (ksD ks).length < sizeLine then some (D.dcu (putD (ksD ks) (pD q) (rD r))) else none) = _
  have hS : 1001 ≤ sizeLine := by decide
  have hll : (ksD ks).length = ks.length := by unfold ksD; rw [List.length_map]
  rw [if_pos ⟨rfl, by omega⟩]
  unfold putD
  rw [any_key, decide_eq_false hn, if_neg (by decide)]
  unfold ksD
  rw [List.map_append]
  rfl
theorem get_key {ks : List (P2S × R3)} (nd : (ks.map (·.1)).Nodup) {p : P2S × R3} (hp : p ∈ ks) : getD (ksD ks) (pD p.1) = some (rD p.2) := by
  induction ks with
  | nil => cases hp
  | cons k ks ih =>
    have nd' := List.nodup_cons.mp (show (k.1 :: ks.map (·.1)).Nodup from nd)
    unfold getD ksD
    rw [List.map_cons, List.find?_cons]
    by_cases e : k.1 = p.1
    · have hk : k = p := by
        rcases List.mem_cons.mp hp with h | h
        · exact h.symm
        · exact absurd (by rw [e]; exact List.mem_map.mpr ⟨p, h, rfl⟩) nd'.1
      subst hk
      simp
    · have : decide (pD k.1 = pD p.1) = false := decide_eq_false fun h => e (pD_inj h)
      simp only [this]
      rcases List.mem_cons.mp hp with h | h
      · exact absurd (by rw [h]) e
      · exact ih nd'.2 h
end Y
namespace Y
variable [TabC]
open PySem L2 TL
local macro_rules
  | `(tactic| fail_if_success skip) => `(tactic| with_reducible refine And.intro (Eq.refl true) ?_)
local macro_rules
  | `(tactic| fail_if_success skip) => `(tactic| with_reducible refine onB_ff (by with_unfolding_all rfl) ?_)
local macro_rules
  | `(tactic| fail_if_success skip) => `(tactic| with_reducible refine onB_tt (by with_unfolding_all rfl) ?_)
local macro_rules
  | `(tactic| fail_if_success skip) => `(tactic| with_reducible refine onBl_b (by with_unfolding_all rfl) ?_)
local macro_rules
  | `(tactic| fail_if_success skip) => `(tactic| with_reducible refine onS_i (by with_unfolding_all rfl) ?_)
local macro_rules
  | `(tactic| fail_if_success skip) => `(tactic| with_reducible refine onI_i (by with_unfolding_all rfl) ?_)
local macro_rules
  | `(tactic| fail_if_success skip) => `(tactic| with_reducible refine PTo_ic (by with_unfolding_all rfl) ?_)
local macro_rules
  | `(tactic| fail_if_success skip) => `(tactic| with_reducible refine PTo_iY (by with_unfolding_all rfl) (by first | decide | assumption | omega) ?_)
local macro_rules
  | `(tactic| fail_if_success skip) => `(tactic| with_reducible refine PTo_n (by with_unfolding_all rfl) ?_)
local macro_rules
  | `(tactic| fail_if_success skip) => `(tactic| with_reducible refine PTo_s (by with_unfolding_all rfl) ?_)
local macro_rules
  | `(tactic| fail_if_success skip) => `(tactic| with_reducible refine PTo_s ix1f ?_)
local macro_rules
  | `(tactic| fail_if_success skip) => `(tactic| with_reducible refine PTo_s ix0f ?_)
local macro_rules
  | `(tactic| fail_if_success skip) => `(tactic| with_reducible refine PTo_s ix2t ?_)
local macro_rules
  | `(tactic| fail_if_success skip) => `(tactic| with_reducible refine PTo_s ix1l ?_)
local macro_rules
  | `(tactic| fail_if_success skip) => `(tactic| with_reducible refine PTo_s ix0l ?_)
local macro_rules
  | `(tactic| fail_if_success skip) => `(tactic| with_reducible refine PTo_s ix1t ?_)
local macro_rules
  | `(tactic| fail_if_success skip) => `(tactic| with_reducible refine PTo_s ix0t ?_)
local macro_rules
  | `(tactic| fail_if_success skip) => `(tactic| with_reducible refine OTo_i (by with_unfolding_all rfl) ?_)
local macro_rules
  | `(tactic| fail_if_success skip) => `(tactic| with_reducible refine STo_iteY (by first | decide | (simp only [List.length_cons, List.length_nil, List.length_append, List.length_map]; decide) | assumption | omega) ?_)
local macro_rules
  | `(tactic| fail_if_success skip) => `(tactic| with_reducible refine To_iteA ?_)
local macro_rules
  | `(tactic| fail_if_success skip) => `(tactic| with_reducible refine To_iteY (by first | decide | (simp only [List.length_cons, List.length_nil, List.length_append, List.length_map]; decide) | assumption | omega) ?_)
local macro_rules
  | `(tactic| fail_if_success skip) => `(tactic| with_reducible refine (rtV_o (by with_unfolding_all rfl) ?_))
local macro_rules
  | `(tactic| fail_if_success skip) => `(tactic| with_reducible refine (rtV_v (by with_unfolding_all rfl) ?_))
local macro_rules
  | `(tactic| fail_if_success skip) => `(tactic| with_reducible refine (rdV_o (by with_unfolding_all rfl) ?_))
local macro_rules
  | `(tactic| fail_if_success skip) => `(tactic| with_reducible refine (rdV_v (by with_unfolding_all rfl) ?_))
local macro_rules
  | `(tactic| fail_if_success skip) => `(tactic| with_reducible refine To_bindc ?_)
local macro_rules
  | `(tactic| fail_if_success skip) => `(tactic| with_reducible refine To_cMupkY (by with_unfolding_all rfl) ?_)
local macro_rules
  | `(tactic| fail_if_success skip) => `(tactic| with_reducible refine muFin_i (by with_unfolding_all rfl) (by with_unfolding_all rfl) ?_)
local macro_rules
  | `(tactic| fail_if_success skip) => `(tactic| with_reducible refine stFin_i (by with_unfolding_all rfl) (by with_unfolding_all rfl) ?_)
local macro_rules
  | `(tactic| fail_if_success skip) => `(tactic| with_reducible refine isF_and ?_)
local macro_rules
  | `(tactic| fail_if_success skip) => `(tactic| with_reducible refine Step.go ?_)
local macro_rules
  | `(tactic| bv_omega) => `(tactic| repeat (fail_if_success skip))
/-! ### the law's rings: the plain law -/
theorem RowsOk.sub {zs : List Str} {rs rs' : List R3} (o : RowsOk zs rs) (h : ∀ r ∈ rs', r ∈ rs) : RowsOk zs rs' where
  one := fun r hr => o.one r (h r hr)
  two := fun r hr => o.two r (h r hr)
  word := fun r hr => o.word r (h r hr)
  asy := fun a b hab => ⟨(o.asy a b (h _ hab)).1, fun hba => (o.asy a b (h _ hab)).2 (h _ hba)⟩
theorem RowsOk.mono {zs zs' : List Str} {rs : List R3} (o : RowsOk zs rs) (h : ∀ z ∈ zs, z ∈ zs') : RowsOk zs' rs where
  one := fun r hr => h _ (o.one r hr)
  two := fun r hr => h _ (o.two r hr)
  word := o.word
  asy := o.asy
theorem RowsOk.addEq {zs : List Str} {rs : List R3} (o : RowsOk zs rs) {a b : Str} (ha : a ∈ zs) (hb : b ∈ zs) : RowsOk zs (rs ++ [(a, b, ("equal" : Str))]) where
  one := fun r hr => by
    rcases List.mem_append.mp hr with hr | hr
    · exact o.one r hr
    · rw [List.mem_singleton.mp hr]; exact ha
  two := fun r hr => by
    rcases List.mem_append.mp hr with hr | hr
    · exact o.two r hr
    · rw [List.mem_singleton.mp hr]; exact hb
  word := fun r hr => by
    rcases List.mem_append.mp hr with hr | hr
    · exact o.word r hr
    · rw [List.mem_singleton.mp hr]; exact .inr rfl
  asy := fun x y h => by
    have key : ∀ x y, Over (rs ++ [(a, b, ("equal" : Str))]) x y → Over rs x y := fun x y h => by
      rcases List.mem_append.mp h with h | h
      · exact h
      · have := List.mem_singleton.mp h
        exact absurd (show ("over" : Str) = "equal" from congrArg (fun r : R3 => r.2.2) this) (by decide)
    exact ⟨(o.asy x y (key x y h)).1, fun h' => (o.asy x y (key x y h)).2 (key y x h')⟩
theorem RowsOk.hang {zs : List Str} {rs : List R3} (o : RowsOk zs rs) {c x : Str} (hc : c ∉ zs) (hx : x ∈ zs) {r : R3} (hr : r = (c, x, ("over" : Str)) ∨ r = (x, c, ("over" : Str))) : RowsOk (zs ++ [c]) (rs ++ [r]) := by
  have hcx : c ≠ x := fun e => hc (e ▸ hx)
  have o' := o.mono (zs' := zs ++ [c]) fun z hz => List.mem_append_left _ hz
  have hx' : x ∈ zs ++ [c] := List.mem_append_left _ hx
  have hc' : c ∈ zs ++ [c] := by simp
  have no1 : ∀ y, ¬ Over rs c y := fun y h => hc (o.one _ h)
  have no2 : ∀ y, ¬ Over rs y c := fun y h => hc (o.two _ h)
  refine ⟨fun q hq => ?_, fun q hq => ?_, fun q hq => ?_, fun a b h => ?_⟩
  · rcases List.mem_append.mp hq with hq | hq
    · exact o'.one q hq
    · rw [List.mem_singleton.mp hq]; rcases hr with rfl | rfl
      · exact hc'
      · exact hx'
  · rcases List.mem_append.mp hq with hq | hq
    · exact o'.two q hq
    · rw [List.mem_singleton.mp hq]; rcases hr with rfl | rfl
      · exact hx'
      · exact hc'
  · rcases List.mem_append.mp hq with hq | hq
    · exact o.word q hq
    · rw [List.mem_singleton.mp hq]; rcases hr with rfl | rfl <;> exact .inl rfl
  · have key : ∀ a b, Over (rs ++ [r]) a b → Over rs a b ∨ (a, b, ("over" : Str)) = r := fun a b h => by
      rcases List.mem_append.mp h with h | h
      · exact .inl h
      · exact .inr (List.mem_singleton.mp h)
    rcases key a b h with h1 | h1
    · refine ⟨(o.asy a b h1).1, fun h' => ?_⟩
      rcases key b a h' with h2 | h2
      · exact (o.asy a b h1).2 h2
      · rcases hr with rfl | rfl
        · cases h2; exact no2 _ h1
        · cases h2; exact no1 _ h1
    · have hab : a ≠ b := by
        rcases hr with rfl | rfl
        · cases h1; exact hcx
        · cases h1; exact fun e => hcx e.symm
      refine ⟨hab, fun h' => ?_⟩
      rcases key b a h' with h2 | h2
      · rcases hr with rfl | rfl
        · cases h1; exact no2 _ h2
        · cases h1; exact no1 _ h2
      · rw [← h1] at h2
        cases h2
        exact hab rfl
def zn (zs : List Str) (i : Nat) : Str := zs.getD i ""
theorem zn_at {zs : List Str} {i : Nat} (h : i < zs.length) : zs[i]? = some (zn zs i) := by
  unfold zn
  rw [List.getD_eq_getElem?_getD, List.getElem?_eq_getElem h]; rfl
theorem zn_inj {zs : List Str} (nd : zs.Nodup) {i j : Nat} (hi : i < zs.length) (hj : j < zs.length) (e : zn zs i = zn zs j) : i = j := by
  have h1 := zn_at hi
  have h2 := zn_at hj
  obtain ⟨a, ea⟩ := List.getElem?_eq_some_iff.mp h1
  obtain ⟨b, eb⟩ := List.getElem?_eq_some_iff.mp h2
  exact (List.getElem_inj nd).mp (ea.trans (e.trans eb.symm))
def ringRow (zs : List Str) (s k : Nat) : R3 := (zn zs k, zn zs ((k + 1) % s), "over")
theorem zn_take {zs : List Str} {s k : Nat} (hk : k < s) (hs : s ≤ zs.length) : zn zs k ∈ zs.take s := by
  have h := zn_at (zs := zs) (i := k) (by omega)
  exact List.mem_of_getElem? (i := k) (by rw [List.getElem?_take, if_pos hk]; exact h)
theorem ring0_ok {zs : List Str} (nd : zs.Nodup) {s : Nat} (h3 : 3 ≤ s) (hs : s ≤ zs.length) : RowsOk (zs.take s) ((List.range s).map (ringRow zs s)) where
  one := fun r hr => by
    obtain ⟨k, hk, rfl⟩ := List.mem_map.mp hr
    exact zn_take (List.mem_range.mp hk) hs
  two := fun r hr => by
    obtain ⟨k, hk, rfl⟩ := List.mem_map.mp hr
    exact zn_take (Nat.mod_lt _ (by omega)) hs
  word := fun r hr => by
    obtain ⟨k, hk, rfl⟩ := List.mem_map.mp hr
    exact .inl rfl
  asy := fun a b h => by
    have md : ∀ k, k < s → (k + 1) % s = if k + 1 < s then k + 1 else 0 := fun k hk => by
      split
      · rename_i h; exact Nat.mod_eq_of_lt h
      · rw [show k + 1 = s by omega, Nat.mod_self]
    have ml : ∀ k, (k + 1) % s < s := fun k => Nat.mod_lt _ (by omega)
    obtain ⟨k, hk, e⟩ := List.mem_map.mp h
    have hk := List.mem_range.mp hk
    cases e
    refine ⟨fun e => ?_, fun h' => ?_⟩
    · have := zn_inj nd (by omega) (by have := ml k; omega) e
      rw [md k hk] at this
      split at this <;> omega
    · obtain ⟨m, hm, e⟩ := List.mem_map.mp h'
      have hm := List.mem_range.mp hm
      have e1 : zn zs m = zn zs ((k + 1) % s) := congrArg (fun r : R3 => r.1) e
      have e2 : zn zs ((m + 1) % s) = zn zs k := congrArg (fun r : R3 => r.2.1) e
      have q1 := zn_inj nd (by omega) (by have := ml k; omega) e1
      have q2 := zn_inj nd (by have := ml m; omega) (by omega) e2
      rw [md k hk] at q1
      rw [md m hm] at q2
      split at q1 <;> split at q2 <;> omega
end Y
namespace Y
variable [TabC]
open PySem L2 TL
local macro_rules
  | `(tactic| fail_if_success skip) => `(tactic| with_reducible refine And.intro (Eq.refl true) ?_)
local macro_rules
  | `(tactic| fail_if_success skip) => `(tactic| with_reducible refine onB_ff (by with_unfolding_all rfl) ?_)
local macro_rules
  | `(tactic| fail_if_success skip) => `(tactic| with_reducible refine onB_tt (by with_unfolding_all rfl) ?_)
local macro_rules
  | `(tactic| fail_if_success skip) => `(tactic| with_reducible refine onBl_b (by with_unfolding_all rfl) ?_)
local macro_rules
  | `(tactic| fail_if_success skip) => `(tactic| with_reducible refine onS_i (by with_unfolding_all rfl) ?_)
local macro_rules
  | `(tactic| fail_if_success skip) => `(tactic| with_reducible refine onI_i (by with_unfolding_all rfl) ?_)
local macro_rules
  | `(tactic| fail_if_success skip) => `(tactic| with_reducible refine PTo_ic (by with_unfolding_all rfl) ?_)
local macro_rules
  | `(tactic| fail_if_success skip) => `(tactic| with_reducible refine PTo_iY (by with_unfolding_all rfl) (by first | decide | assumption | omega) ?_)
local macro_rules
  | `(tactic| fail_if_success skip) => `(tactic| with_reducible refine PTo_n (by with_unfolding_all rfl) ?_)
local macro_rules
  | `(tactic| fail_if_success skip) => `(tactic| with_reducible refine PTo_s (by with_unfolding_all rfl) ?_)
local macro_rules
  | `(tactic| fail_if_success skip) => `(tactic| with_reducible refine PTo_s ix1f ?_)
local macro_rules
  | `(tactic| fail_if_success skip) => `(tactic| with_reducible refine PTo_s ix0f ?_)
local macro_rules
  | `(tactic| fail_if_success skip) => `(tactic| with_reducible refine PTo_s ix2t ?_)
local macro_rules
  | `(tactic| fail_if_success skip) => `(tactic| with_reducible refine PTo_s ix1l ?_)
local macro_rules
  | `(tactic| fail_if_success skip) => `(tactic| with_reducible refine PTo_s ix0l ?_)
local macro_rules
  | `(tactic| fail_if_success skip) => `(tactic| with_reducible refine PTo_s ix1t ?_)
local macro_rules
  | `(tactic| fail_if_success skip) => `(tactic| with_reducible refine PTo_s ix0t ?_)
local macro_rules
  | `(tactic| fail_if_success skip) => `(tactic| with_reducible refine OTo_i (by with_unfolding_all rfl) ?_)
local macro_rules
  | `(tactic| fail_if_success skip) => `(tactic| with_reducible refine STo_iteY (by first | decide | (simp only [List.length_cons, List.length_nil, List.length_append, List.length_map]; decide) | assumption | omega) ?_)
local macro_rules
  | `(tactic| fail_if_success skip) => `(tactic| with_reducible refine To_iteA ?_)
local macro_rules
  | `(tactic| fail_if_success skip) => `(tactic| with_reducible refine To_iteY (by first | decide | (simp only [List.length_cons, List.length_nil, List.length_append, List.length_map]; decide) | assumption | omega) ?_)
local macro_rules
  | `(tactic| fail_if_success skip) => `(tactic| with_reducible refine (rtV_o (by with_unfolding_all rfl) ?_))
local macro_rules
  | `(tactic| fail_if_success skip) => `(tactic| with_reducible refine (rtV_v (by with_unfolding_all rfl) ?_))
local macro_rules
  | `(tactic| fail_if_success skip) => `(tactic| with_reducible refine (rdV_o (by with_unfolding_all rfl) ?_))
local macro_rules
  | `(tactic| fail_if_success skip) => `(tactic| with_reducible refine (rdV_v (by with_unfolding_all rfl) ?_))
local macro_rules
  | `(tactic| fail_if_success skip) => `(tactic| with_reducible refine To_bindc ?_)
local macro_rules
  | `(tactic| fail_if_success skip) => `(tactic| with_reducible refine To_cMupkY (by with_unfolding_all rfl) ?_)
local macro_rules
  | `(tactic| fail_if_success skip) => `(tactic| with_reducible refine muFin_i (by with_unfolding_all rfl) (by with_unfolding_all rfl) ?_)
local macro_rules
  | `(tactic| fail_if_success skip) => `(tactic| with_reducible refine stFin_i (by with_unfolding_all rfl) (by with_unfolding_all rfl) ?_)
local macro_rules
  | `(tactic| fail_if_success skip) => `(tactic| with_reducible refine isF_and ?_)
local macro_rules
  | `(tactic| fail_if_success skip) => `(tactic| with_reducible refine Step.go ?_)
local macro_rules
  | `(tactic| bv_omega) => `(tactic| repeat (fail_if_success skip))
theorem rows_ok {pick : Fn} (P : PickOk pick) {g : Gs} {h n : Nat} {zs : List Str} {m : Int} (H : Hand g h (n + 100)) (h0 : zs ≠ []) (h1 : zs.length ≤ 100) (m0 : 0 ≤ m) (m1 : m ≤ 30)
    {K : D → Bool → Lc → Gs → Prop} (k : ∀ (rs : List R3) (l : Lc) (g' : Gs), RowsOk zs rs → rs.length ≤ 30 → Hand g' h n → g'.length = g.length → K (.lst (rs.map rD)) true l g') :
    (runD 9 3 (m__law_rows pick) [.ref h, .lst (zs.map .str), .int m] g).To K := by
  unfold m__law_rows
  refine To_runDi rfl ?_
  bv_omega
  refine rg_and (by omega) (by omega) ?_
  have hr2 : (rgD 0 m).length ≤ 30 := by rw [rg_len]; omega
  have hz0 : zs.map D.str ≠ [] := by simpa using h0
  have hz1 : (zs.map D.str).length < 1073741824 := by simp only [List.length_map]; omega
  refine forL_rule (fun rest l g' => Hand g' h (n + 3 * rest.length) ∧ g'.length = g.length ∧ ∃ (ks : List (P2S × R3)) (x4 x5 x6 x7 x8 : Option SV), KeysOk zs ks ∧ ks.length + rest.length ≤ 30 ∧ l = [some (.val (.ref h)), some (.val (.lst (zs.map .str))), some (.val (.int m)), some (.own (.dcu (ksD ks))), x4, x5, x6, x7, x8])
    ⟨H.le (by omega), rfl, [], _, _, _, _, _, ⟨by simp, by simp, by simp, by simp, by simp⟩, by simpa using hr2, rfl⟩ ?_ ?_
  · rintro d r l g' ⟨H', gl', ks, x4, x5, x6, x7, x8, hk, hl, rfl⟩
    simp only [List.length_cons] at hl H'
    bv_omega
    refine P.go (n := n + 3 * r.length + 2) (H'.le (by omega)) (zs.map .str) rfl hz0 hz1 fun a _ g3 ha H3 gl3 => ?_
    bv_omega
    refine P.go (n := n + 3 * r.length + 1) H3 (zs.map .str) rfl hz0 hz1 fun b _ g4 hb H4 gl4 => ?_
    obtain ⟨a, ha', rfl⟩ := List.mem_map.mp ha
    obtain ⟨b, hb', rfl⟩ := List.mem_map.mp hb
    bv_omega
    refine To_cIfS.mpr ?_
    bv_omega
    refine onB_ndec (fun hu => ?_) (fun hu => ?_)
    · bv_omega
      show onB (.bl (!(getD (ksD ks) (pD (mm a b))).isSome)) _ _ _
      rw [getD_key]
      refine onB_ndec (fun hv => ?_) (fun hv => ?_)
      · bv_omega
        refine P.go (n := n + 3 * r.length) H4 [rD (a, b, "over"), rD (a, b, "over"), rD ((mm a b).1, (mm a b).2, "equal")] rfl (by simp) (by show (3 : Nat) < 1073741824; decide) fun c _ g5 hc H5 gl5 => ?_
        obtain ⟨q, rfl, hq⟩ : ∃ q : R3, c = rD q ∧ (q = (a, b, ("over" : Str)) ∨ q = ((mm a b).1, (mm a b).2, ("equal" : Str))) := by
          simp only [List.mem_cons, List.not_mem_nil, or_false] at hc
          rcases hc with rfl | rfl | rfl
          · exact ⟨_, rfl, .inl rfl⟩
          · exact ⟨_, rfl, .inl rfl⟩
          · exact ⟨_, rfl, .inr rfl⟩
        bv_omega
        refine OTo_i (put_key (q := mm a b) (r := q) (by omega) hv) ?_
        bv_omega
        exact ⟨H5, by show g5.length = g.length; omega, _, _, _, _, _, _, hk.put ha' hb' hu hv hq, by simp only [List.length_append, List.length_cons, List.length_nil]; omega, rfl⟩
      · bv_omega
        exact ⟨H4.le (by omega), by omega, ks, _, _, _, _, _, hk, by omega, rfl⟩
    · bv_omega
      exact ⟨H4.le (by omega), by omega, ks, _, _, _, _, _, hk, by omega, rfl⟩
  · rintro l g' ⟨H', gl', ks, x4, x5, x6, x7, x8, hk, hl, rfl⟩
    simp only [List.length_nil] at hl H'
    bv_omega
    have hl' : (ksD ks).length = ks.length := by unfold ksD; rw [List.length_map]
    have hS : 1001 ≤ sizeLine := by decide
    refine compL_map (fun d => (getD (ksD ks) d).getD .non) ?_ (by simp only [List.length_nil, List.length_map]; omega) ?_
    · intro d hd
      obtain ⟨x, hx, rfl⟩ := List.mem_map.mp hd
      obtain ⟨p, hp, rfl⟩ := List.mem_map.mp hx
      have e := get_key hk.nd hp
      bv_omega
      refine PTo_s (d := rD p.2) (by
        show (match (if (tkOf (pD p.1)).isSome = true then some (getD (ksD ks) (pD p.1)) else none) with | some (some d) => PR.sh d | _ => .no) = _
        rw [if_pos (show (tkOf (pD p.1)).isSome = true from rfl), e]) ?_
      exact ⟨by rw [e]; rfl, rfl, rfl⟩
    · have e : ((ksD ks).map fun x => x.1).map (fun d => (getD (ksD ks) d).getD .non) = (ks.map (·.2)).map rD := by
        rw [List.map_map, List.map_map]
        unfold ksD
        rw [List.map_map]
        refine List.map_congr_left fun p hp => ?_
        show (getD (ksD ks) (pD p.1)).getD .non = rD p.2
        rw [get_key hk.nd hp]; rfl
      rw [List.nil_append]
      bv_omega
      have e2 := k _ [] g' hk.rows (by rw [List.length_map]; omega) (H'.le (by omega)) gl'
      rw [← e] at e2
      exact e2
end Y
namespace Y
variable [TabC]
open PySem L2 TL
local macro_rules
  | `(tactic| fail_if_success skip) => `(tactic| with_reducible refine And.intro (Eq.refl true) ?_)
local macro_rules
  | `(tactic| fail_if_success skip) => `(tactic| with_reducible refine onB_ff (by with_unfolding_all rfl) ?_)
local macro_rules
  | `(tactic| fail_if_success skip) => `(tactic| with_reducible refine onB_tt (by with_unfolding_all rfl) ?_)
local macro_rules
  | `(tactic| fail_if_success skip) => `(tactic| with_reducible refine onBl_b (by with_unfolding_all rfl) ?_)
local macro_rules
  | `(tactic| fail_if_success skip) => `(tactic| with_reducible refine onS_i (by with_unfolding_all rfl) ?_)
local macro_rules
  | `(tactic| fail_if_success skip) => `(tactic| with_reducible refine onI_i (by with_unfolding_all rfl) ?_)
local macro_rules
  | `(tactic| fail_if_success skip) => `(tactic| with_reducible refine PTo_ic (by with_unfolding_all rfl) ?_)
local macro_rules
  | `(tactic| fail_if_success skip) => `(tactic| with_reducible refine PTo_iY (by with_unfolding_all rfl) (by first | decide | assumption | omega) ?_)
local macro_rules
  | `(tactic| fail_if_success skip) => `(tactic| with_reducible refine PTo_n (by with_unfolding_all rfl) ?_)
local macro_rules
  | `(tactic| fail_if_success skip) => `(tactic| with_reducible refine PTo_s (by with_unfolding_all rfl) ?_)
local macro_rules
  | `(tactic| fail_if_success skip) => `(tactic| with_reducible refine PTo_s ix1f ?_)
local macro_rules
  | `(tactic| fail_if_success skip) => `(tactic| with_reducible refine PTo_s ix0f ?_)
local macro_rules
  | `(tactic| fail_if_success skip) => `(tactic| with_reducible refine PTo_s ix2t ?_)
local macro_rules
  | `(tactic| fail_if_success skip) => `(tactic| with_reducible refine PTo_s ix1l ?_)
local macro_rules
  | `(tactic| fail_if_success skip) => `(tactic| with_reducible refine PTo_s ix0l ?_)
local macro_rules
  | `(tactic| fail_if_success skip) => `(tactic| with_reducible refine PTo_s ix1t ?_)
local macro_rules
  | `(tactic| fail_if_success skip) => `(tactic| with_reducible refine PTo_s ix0t ?_)
local macro_rules
  | `(tactic| fail_if_success skip) => `(tactic| with_reducible refine OTo_i (by with_unfolding_all rfl) ?_)
local macro_rules
  | `(tactic| fail_if_success skip) => `(tactic| with_reducible refine STo_iteY (by first | decide | (simp only [List.length_cons, List.length_nil, List.length_append, List.length_map]; decide) | assumption | omega) ?_)
local macro_rules
  | `(tactic| fail_if_success skip) => `(tactic| with_reducible refine To_iteA ?_)
local macro_rules
  | `(tactic| fail_if_success skip) => `(tactic| with_reducible refine To_iteY (by first | decide | (simp only [List.length_cons, List.length_nil, List.length_append, List.length_map]; decide) | assumption | omega) ?_)
local macro_rules
  | `(tactic| fail_if_success skip) => `(tactic| with_reducible refine (rtV_o (by with_unfolding_all rfl) ?_))
local macro_rules
  | `(tactic| fail_if_success skip) => `(tactic| with_reducible refine (rtV_v (by with_unfolding_all rfl) ?_))
local macro_rules
  | `(tactic| fail_if_success skip) => `(tactic| with_reducible refine (rdV_o (by with_unfolding_all rfl) ?_))
local macro_rules
  | `(tactic| fail_if_success skip) => `(tactic| with_reducible refine (rdV_v (by with_unfolding_all rfl) ?_))
local macro_rules
  | `(tactic| fail_if_success skip) => `(tactic| with_reducible refine To_bindc ?_)
local macro_rules
  | `(tactic| fail_if_success skip) => `(tactic| with_reducible refine To_cMupkY (by with_unfolding_all rfl) ?_)
local macro_rules
  | `(tactic| fail_if_success skip) => `(tactic| with_reducible refine muFin_i (by with_unfolding_all rfl) (by with_unfolding_all rfl) ?_)
local macro_rules
  | `(tactic| fail_if_success skip) => `(tactic| with_reducible refine stFin_i (by with_unfolding_all rfl) (by with_unfolding_all rfl) ?_)
local macro_rules
  | `(tactic| fail_if_success skip) => `(tactic| with_reducible refine isF_and ?_)
local macro_rules
  | `(tactic| fail_if_success skip) => `(tactic| with_reducible refine Step.go ?_)
local macro_rules
  | `(tactic| bv_omega) => `(tactic| repeat (fail_if_success skip))
theorem ix_zn {zs : List Str} {i : Int} (h0 : 0 ≤ i) (h1 : i < zs.length) : dIx (.lst (zs.map .str)) (.int i) = .sh (.str (zn zs i.toNat)) := by
  obtain ⟨k, rfl⟩ := Int.eq_ofNat_of_zero_le h0
  have hk : k < zs.length := by omega
  rw [dIx_l, atI_nat (v := D.str (zn zs k)) (by rw [List.getElem?_map, zn_at hk]; rfl)]
  rfl
theorem er_map {α β : Type} {f : α → β} : ∀ {l : List α} {k : Nat}, (l.map f).eraseIdx k = (l.eraseIdx k).map f
  | [], _ => rfl
  | _ :: _, 0 => rfl
  | a :: l, k + 1 => by
    show f a :: (l.map f).eraseIdx k = f a :: (l.eraseIdx k).map f
    rw [er_map]
theorem mm_mem {S : List Str} {a b : Str} (ha : a ∈ S) (hb : b ∈ S) : (mm a b).1 ∈ S ∧ (mm a b).2 ∈ S := by
  unfold mm
  constructor
  · show (if ltS b a then b else a) ∈ S
    split <;> assumption
  · show (if ltS a b then b else a) ∈ S
    split <;> assumption
theorem take_zn {zs : List Str} {c : Nat} (h : c < zs.length) : zs.take (c + 1) = zs.take c ++ [zn zs c] := by
  rw [List.take_succ, zn_at h]; rfl
theorem zn_notin {zs : List Str} (nd : zs.Nodup) {c : Nat} (h : c < zs.length) : zn zs c ∉ zs.take c := fun hm => by
  obtain ⟨i, hi, e⟩ := List.mem_iff_getElem.mp hm
  rw [List.length_take] at hi
  have hi2 : i < zs.length := by omega
  have h1 : (zs.take c)[i]? = some (zn zs c) := by rw [List.getElem?_eq_getElem (by rw [List.length_take]; exact hi), e]
  rw [List.getElem?_take, if_pos (by omega), zn_at hi2] at h1
  have := zn_inj nd hi2 h (Option.some.inj h1)
  omega
theorem app_row {rs : List R3} {q : R3} (h : rs.length ≤ 1000) : muAppend (.lst (rs.map rD)) [rD q] = some (.lst ((rs ++ [q]).map rD), .non) := by
  have hS : 1001 ≤ sizeLine := by decide
  rw [List.map_append]
  exact muApp_ok (by rw [List.length_map]; omega)
theorem pop_rows {rs : List R3} {i : Int} (h0 : 0 ≤ i) (h1 : i < rs.length) (h2 : rs.length ≤ 1000) : ∃ r, r ∈ rs ∧ muPopAt (.lst (rs.map rD)) [.int i] = some (.lst ((rs.eraseIdx i.toNat).map rD), rD r) := by
  obtain ⟨k, rfl⟩ := Int.eq_ofNat_of_zero_le h0
  have hk : k < rs.length := by omega
  refine ⟨rs[k], List.getElem_mem hk, ?_⟩
  have e1 : seqIndex? (k : Int) ((rs.map rD).length) = some k := by
    have hneg : ¬ ((k : Int) < 0) := by omega
    simp only [seqIndex?, hneg, if_false, List.length_map]
    rw [if_pos (by simp only [Bool.and_eq_true, decide_eq_true_eq]; omega), Int.toNat_natCast]
  have e2 : (rs.map rD)[k]? = some (rD rs[k]) := by rw [List.getElem?_map, List.getElem?_eq_getElem hk]; rfl
  simp only [muPopAt]
  rw [if_pos ⟨by omega, by omega⟩]
  simp only [e1, e2, Int.toNat_natCast]
  rw [er_map]
abbrev ringBody (take pick : Fn) : Sg := 
  (cSq (cSet 6 (c2 dIx (Opd.pk 1) (Opd.ev (cCall take [] [cVar 0, cVar 8]))))
    (cSq (cDrop (cMu isLst muAppend (Opd.pk 3) [cCall pick [] [cVar 0, cLst [cTup [c2 dIx (Opd.pk 1) (Opd.pk 8), cVar 6, cC (D.str (Str.ofString "over"))], cTup [cVar 6, c2 dIx (Opd.pk 1) (Opd.pk 8), cC (D.str (Str.ofString "over"))]]]]))
    cNil))
abbrev ringFor (take pick : Fn) : Sg := cFor (iRange2 (cVar 2) (cU dLen (Opd.pk 1))) (Tg.nm 8) (ringBody take pick)
abbrev ringIf2 (take : Fn) : Sg := cIfS (c2 dEq (Opd.pk 4) (Opd.ev (cC (D.int 2))))
  (cSq (cAsg (Tg.tp [5, 6, 7]) (cMu isLst muPopAt (Opd.pk 3) [cCall take [] [cVar 0, cVar 2]]))
    (cSq (cDrop (cMu isLst muAppend (Opd.pk 3) [cTup [c2 dMin2A (Opd.pk 5) (Opd.pk 6), c2 dMax2A (Opd.pk 5) (Opd.pk 6), cC (D.str (Str.ofString "equal"))]]))
    cNil))
  cNil
abbrev ringSt (h : Nat) (zs : List Str) (s : Nat) (rs : List R3) (x4 x5 x6 x7 x8 : Option SV) : Lc := [some (.val (.ref h)), some (.val (.lst (zs.map .str))), some (.val (.int ((3 : Int) + (s : Int)))), some (.own (.lst (rs.map rD))), x4, x5, x6, x7, x8]
theorem for_ok {take pick : Fn} (T : TakeOk take) (P : PickOk pick) {g : Gs} {h n s : Nat} {zs : List Str} {rs : List R3} {x4 x5 x6 x7 x8 : Option SV} (H : Hand g h (n + 60)) (nd : zs.Nodup) (hs : 3 + s ≤ zs.length) (h1 : zs.length ≤ 20) (o : RowsOk (zs.take (3 + s)) rs) (hl : rs.length ≤ 25)
    {K : D → Bool → Lc → Gs → Prop} (k : ∀ (rs : List R3) (l : Lc) (g' : Gs), RowsOk zs rs → rs.length ≤ 60 → Hand g' h n → g'.length = g.length → K (.lst (rs.map rD)) true l g') :
    rgOk (3 + (s : Int)) ((List.map D.str zs).length : Int) = true ∧ (forL none (rgD (3 + (s : Int)) ((List.map D.str zs).length : Int)) (Tg.nm 8) (ringBody take pick) (rgD (3 + (s : Int)) ((List.map D.str zs).length : Int)) (ringSt h zs s rs x4 x5 x6 x7 x8) g).To
      (fun l g => (cSq (cRetV 3) cNil l g).To (fun x g => K D.non false [] g) (fun d f g => K d f [] g) (fun x x_1 => False) fun x x_1 => False) (fun d f g => K d f [] g) (fun x x_1 => False) fun x x_1 => False := by
  have hS : 1001 ≤ sizeLine := by decide
  have hlz : ((List.map D.str zs).length : Int) = (zs.length : Nat) := by simp
  refine And.intro (by unfold rgOk; simp only [Bool.and_eq_true, decide_eq_true_eq]; omega) ?_
  have hrl : rgD (3 + (s : Int)) ((List.map D.str zs).length : Int) = (List.range' (3 + s) (zs.length - (3 + s))).map fun k : Nat => D.int (k : Int) := by
    unfold rgD
    rw [List.range'_eq_map_range, List.map_map, show (((List.map D.str zs).length : Int) - (3 + (s : Int))).toNat = zs.length - (3 + s) by rw [hlz]; omega]
    refine List.map_congr_left fun i _ => ?_
    show D.int (3 + (s : Int) + (i : Nat)) = D.int ((3 + s + i : Nat) : Int)
    exact congrArg D.int (by omega)
  rw [hrl]
  refine forL_rule (fun rest l g' => Hand g' h (n + 2 * rest.length) ∧ g'.length = g.length ∧ rest.length ≤ zs.length ∧ 3 + s + rest.length ≤ zs.length ∧ rest = (List.range' (zs.length - rest.length) rest.length).map (fun k : Nat => D.int (k : Int)) ∧ ∃ (rs : List R3) (x4 x5 x6 x7 x8 : Option SV), RowsOk (zs.take (zs.length - rest.length)) rs ∧ rs.length + rest.length ≤ 45 ∧ l = ringSt h zs s rs x4 x5 x6 x7 x8)
    ⟨H.le (by simp only [List.length_map, List.length_range']; omega), rfl, by simp only [List.length_map, List.length_range']; omega, by simp only [List.length_map, List.length_range']; omega, ?_, rs, _, _, _, _, _, ?_, by simp only [List.length_map, List.length_range']; omega, rfl⟩ ?_ ?_
  · simp only [List.length_map, List.length_range', show zs.length - (zs.length - (3 + s)) = 3 + s by omega]
  · simp only [List.length_map, List.length_range']
    rw [show zs.length - (zs.length - (3 + s)) = 3 + s by omega]
    exact o
  · rintro d r l g' ⟨H', gl', hl1, hl2, hrest, rs, x4, x5, x6, x7, x8, o, hl, rfl⟩
    simp only [List.length_cons] at hl hl1 hl2 H' hrest o
    obtain ⟨c, hc⟩ : ∃ c, c = zs.length - (r.length + 1) := ⟨_, rfl⟩
    rw [← hc, List.range'_succ, List.map_cons] at hrest
    rw [← hc] at o
    obtain ⟨rfl, hr⟩ := List.cons.inj hrest
    have hcl : c < zs.length := by omega
    bv_omega
    refine T.go (n := n + 2 * r.length + 1) (H'.le (by omega)) (by omega) (by omega) fun j _ g5 j0 j1 H5 gl5 => ?_
    refine PTo_s (ix_zn j0 (by omega)) ?_
    bv_omega
    refine PTo_s (ix_zn (by omega) (by omega)) ?_
    bv_omega
    refine PTo_s (ix_zn (by omega) (by omega)) ?_
    bv_omega
    refine P.go (n := n + 2 * r.length) H5 [rD (zn zs c, zn zs j.toNat, "over"), rD (zn zs j.toNat, zn zs c, "over")] rfl (by simp) (by show (2 : Nat) < 1073741824; decide) fun q _ g6 hq H6 gl6 => ?_
    obtain ⟨q, rfl, hq2⟩ : ∃ q' : R3, q = rD q' ∧ (q' = (zn zs c, zn zs j.toNat, ("over" : Str)) ∨ q' = (zn zs j.toNat, zn zs c, ("over" : Str))) := by
      simp only [List.mem_cons, List.not_mem_nil, or_false] at hq
      rcases hq with rfl | rfl
      · exact ⟨_, rfl, .inl rfl⟩
      · exact ⟨_, rfl, .inr rfl⟩
    bv_omega
    refine OTo_i (app_row (by omega)) ?_
    bv_omega
    have hj : zn zs j.toNat ∈ zs.take c := zn_take (by omega) (by omega)
    refine ⟨H6, by show g6.length = g.length; omega, by omega, by omega, ?_, _, _, _, _, _, _, ?_, ?_, rfl⟩
    · rw [hr, List.length_map, List.length_range', show zs.length - r.length = c + 1 by omega]
    · rw [show zs.length - r.length = c + 1 by omega, take_zn hcl]
      exact o.hang (zn_notin nd hcl) hj hq2
    · simp only [List.length_append, List.length_cons, List.length_nil]; omega
  · rintro l g' ⟨H', gl', hl1, hl2, hrest, rs, x4, x5, x6, x7, x8, o, hl, rfl⟩
    simp only [List.length_nil] at hl H' o
    rw [Nat.sub_zero, List.take_length] at o
    bv_omega
    exact k rs _ g' o (by omega) (H'.le (by omega)) gl'
theorem if2_ok {take pick : Fn} (T : TakeOk take) (P : PickOk pick) {g : Gs} {h n s : Nat} {zs : List Str} {rs : List R3} {x5 x6 x7 x8 : Option SV} {w : Int} (H : Hand g h (n + 61)) (nd : zs.Nodup) (hs : 3 + s ≤ zs.length) (h1 : zs.length ≤ 20) (o : RowsOk (zs.take (3 + s)) rs) (hl : rs.length ≤ 24) (hp : w = 2 → 3 + s ≤ rs.length)
    {K : D → Bool → Lc → Gs → Prop} (k : ∀ (rs : List R3) (l : Lc) (g' : Gs), RowsOk zs rs → rs.length ≤ 60 → Hand g' h n → g'.length = g.length → K (.lst (rs.map rD)) true l g') :
    (ringIf2 take (ringSt h zs s rs (some (.val (.int w))) x5 x6 x7 x8) g).To (fun l g => (cSq (ringFor take pick) (cSq (cRetV 3) cNil) l g).To (fun x g => K D.non false [] g) (fun d f g => K d f [] g) (fun x x_1 => False) fun x x_1 => False) (fun d f g => K d f [] g) (fun x x_1 => False) fun x x_1 => False := by
  have hS : 1001 ≤ sizeLine := by decide
  refine To_cIfS.mpr ?_
  bv_omega
  refine onB_dec (fun hw => ?_) (fun hw => ?_)
  · have hp := hp hw
    bv_omega
    refine T.go (n := n + 60) (H.le (by omega)) (by omega) (by omega) fun i _ g5 i0 i1 H5 gl5 => ?_
    obtain ⟨r, hr, e⟩ := pop_rows (rs := rs) i0 (by omega) (by omega)
    bv_omega
    refine OTo_i e ?_
    bv_omega
    have hel := List.length_eraseIdx_le rs i.toNat
    refine OTo_i (app_row (rs := rs.eraseIdx i.toNat) (q := ((mm r.1 r.2.1).1, (mm r.1 r.2.1).2, ("equal" : Str))) (by omega)) ?_
    bv_omega
    have hmm := mm_mem (o.one r hr) (o.two r hr)
    refine for_ok T P (n := n) H5 nd hs h1 ((o.sub fun r hr => List.mem_of_mem_eraseIdx hr).addEq hmm.1 hmm.2) ?_ fun rs l g' a1 a2 a3 a4 => k rs l g' a1 a2 a3 (by omega)
    simp only [List.length_append, List.length_cons, List.length_nil]
    omega
  · bv_omega
    exact for_ok T P (n := n) (H.le (by omega)) nd hs h1 o (by omega) k
theorem ringed_ok {take pick : Fn} (T : TakeOk take) (P : PickOk pick) {g : Gs} {h n : Nat} {zs : List Str} (H : Hand g h (n + 100)) (nd : zs.Nodup) (h3 : 3 ≤ zs.length) (h1 : zs.length ≤ 20)
    {K : D → Bool → Lc → Gs → Prop} (k : ∀ (rs : List R3) (l : Lc) (g' : Gs), RowsOk zs rs → rs.length ≤ 60 → Hand g' h n → g'.length = g.length → K (.lst (rs.map rD)) true l g') :
    (runD 9 2 (m__law_ringed take pick) [.ref h, .lst (zs.map .str)] g).To K := by
  have hS : 1001 ≤ sizeLine := by decide
  have hlz : ((List.map D.str zs).length : Int) = (zs.length : Nat) := by simp
  unfold m__law_ringed
  refine To_runDi rfl ?_
  bv_omega
  refine T.go (n := n + 99) (H.le (by omega)) (by omega) (by omega) fun t _ g3 t0 t1 H3 gl3 => ?_
  obtain ⟨t, rfl⟩ := Int.eq_ofNat_of_zero_le t0
  have hs : 3 + t ≤ zs.length := by omega
  bv_omega
  refine rg_and (by omega) (by omega) ?_
  have hrl : (rgD 0 (3 + (t : Int))).length = 3 + t := by rw [rg_len]; omega
  refine compL_map (fun d => match d with | .int i => rD (ringRow zs (3 + t) i.toNat) | _ => .non) ?_ (by simp only [List.length_nil]; omega) ?_
  · intro d hd
    obtain ⟨i, rfl, i0, i1⟩ := rg_in d hd
    obtain ⟨i, rfl⟩ := Int.eq_ofNat_of_zero_le i0
    bv_omega
    refine PTo_s (ix_zn i0 (by omega)) ?_
    bv_omega
    refine PTo_s (ix_zn (Int.emod_nonneg _ (by omega)) (by have := Int.emod_lt_of_pos ((i : Int) + 1) (b := 3 + (t : Int)) (by omega); omega)) ?_
    bv_omega
    have e : (((i : Int) + 1) % (3 + (t : Int))).toNat = (i + 1) % (3 + t) := by
      rw [show ((i : Int) + 1) % (3 + (t : Int)) = (((i + 1) % (3 + t) : Nat) : Int) by rw [Int.natCast_emod]; rfl, Int.toNat_natCast]
    refine ⟨?_, rfl, rfl⟩
    rw [e]
    rfl
  · have r0 := ring0_ok nd (s := 3 + t) (by omega) hs
    have e0 : (rgD 0 (3 + (t : Int))).map (fun d => match d with | .int i => rD (ringRow zs (3 + t) i.toNat) | _ => .non) = ((List.range (3 + t)).map (ringRow zs (3 + t))).map rD := by
      unfold rgD
      rw [show (3 + (t : Int) - 0).toNat = 3 + t by omega, List.map_map, List.map_map]
      refine List.map_congr_left fun i _ => ?_
      show rD (ringRow zs (3 + t) ((0 : Int) + (i : Nat)).toNat) = _
      rw [show ((0 : Int) + (i : Nat)).toNat = i by omega]
      rfl
    rw [List.nil_append]
    rw [show List.map (fun d => match d with | .int i => rD (ringRow zs (3 + t) i.toNat) | _ => .non) (rgD 0 (3 + (t : Int)), (none : Gd)).fst = ((List.range (3 + t)).map (ringRow zs (3 + t))).map rD from e0]
    bv_omega
    refine T.go (n := n + 98) (H3.le (by omega)) (by decide) (by decide) fun w _ g4 w0 w1 H4 gl4 => ?_
    bv_omega
    refine To_cIfS.mpr ?_
    bv_omega
    refine onB_dec (fun hw => ?_) (fun hw => ?_)
    · bv_omega
      refine T.go (n := n + 97) (H4.le (by omega)) (by omega) (by omega) fun i _ g5 i0 i1 H5 gl5 => ?_
      obtain ⟨r, hr, e⟩ := pop_rows (rs := (List.range (3 + t)).map (ringRow zs (3 + t))) i0 (by simp only [List.length_map, List.length_range]; omega) (by simp only [List.length_map, List.length_range]; omega)
      bv_omega
      refine OTo_i e ?_
      bv_omega
      refine if2_ok T P (n := n) (H5.le (by omega)) nd hs h1 (r0.sub fun r hr => List.mem_of_mem_eraseIdx hr) ?_ (fun hw2 => by omega) fun rs l g' a1 a2 a3 a4 => k rs l g' a1 a2 a3 (by omega)
      have := List.length_eraseIdx_le ((List.range (3 + t)).map (ringRow zs (3 + t))) i.toNat
      simp only [List.length_map, List.length_range] at this
      omega
    · bv_omega
      exact if2_ok T P (n := n) (H4.le (by omega)) nd hs h1 r0 (by simp only [List.length_map, List.length_range]; omega) (fun _ => by simp only [List.length_map, List.length_range]; omega) fun rs l g' a1 a2 a3 a4 => k rs l g' a1 a2 a3 (by omega)
end Y
namespace Y
variable [TabC]
open PySem L2 TL
local macro_rules
  | `(tactic| fail_if_success skip) => `(tactic| with_reducible refine And.intro (Eq.refl true) ?_)
local macro_rules
  | `(tactic| fail_if_success skip) => `(tactic| with_reducible refine onB_ff (by with_unfolding_all rfl) ?_)
local macro_rules
  | `(tactic| fail_if_success skip) => `(tactic| with_reducible refine onB_tt (by with_unfolding_all rfl) ?_)
local macro_rules
  | `(tactic| fail_if_success skip) => `(tactic| with_reducible refine onBl_b (by with_unfolding_all rfl) ?_)
local macro_rules
  | `(tactic| fail_if_success skip) => `(tactic| with_reducible refine onS_i (by with_unfolding_all rfl) ?_)
local macro_rules
  | `(tactic| fail_if_success skip) => `(tactic| with_reducible refine onI_i (by with_unfolding_all rfl) ?_)
local macro_rules
  | `(tactic| fail_if_success skip) => `(tactic| with_reducible refine PTo_ic (by with_unfolding_all rfl) ?_)
local macro_rules
  | `(tactic| fail_if_success skip) => `(tactic| with_reducible refine PTo_iY (by with_unfolding_all rfl) (by first | decide | assumption | omega) ?_)
local macro_rules
  | `(tactic| fail_if_success skip) => `(tactic| with_reducible refine PTo_n (by with_unfolding_all rfl) ?_)
local macro_rules
  | `(tactic| fail_if_success skip) => `(tactic| with_reducible refine PTo_s (by with_unfolding_all rfl) ?_)
local macro_rules
  | `(tactic| fail_if_success skip) => `(tactic| with_reducible refine PTo_s ix1f ?_)
local macro_rules
  | `(tactic| fail_if_success skip) => `(tactic| with_reducible refine PTo_s ix0f ?_)
local macro_rules
  | `(tactic| fail_if_success skip) => `(tactic| with_reducible refine PTo_s ix2t ?_)
local macro_rules
  | `(tactic| fail_if_success skip) => `(tactic| with_reducible refine PTo_s ix1l ?_)
local macro_rules
  | `(tactic| fail_if_success skip) => `(tactic| with_reducible refine PTo_s ix0l ?_)
local macro_rules
  | `(tactic| fail_if_success skip) => `(tactic| with_reducible refine PTo_s ix1t ?_)
local macro_rules
  | `(tactic| fail_if_success skip) => `(tactic| with_reducible refine PTo_s ix0t ?_)
local macro_rules
  | `(tactic| fail_if_success skip) => `(tactic| with_reducible refine OTo_i (by with_unfolding_all rfl) ?_)
local macro_rules
  | `(tactic| fail_if_success skip) => `(tactic| with_reducible refine STo_iteY (by first | decide | (simp only [List.length_cons, List.length_nil, List.length_append, List.length_map]; decide) | assumption | omega) ?_)
local macro_rules
  | `(tactic| fail_if_success skip) => `(tactic| with_reducible refine To_iteA ?_)
local macro_rules
  | `(tactic| fail_if_success skip) => `(tactic| with_reducible refine To_iteY (by first | decide | (simp only [List.length_cons, List.length_nil, List.length_append, List.length_map]; decide) | assumption | omega) ?_)
local macro_rules
  | `(tactic| fail_if_success skip) => `(tactic| with_reducible refine (rtV_o (by with_unfolding_all rfl) ?_))
local macro_rules
  | `(tactic| fail_if_success skip) => `(tactic| with_reducible refine (rtV_v (by with_unfolding_all rfl) ?_))
local macro_rules
  | `(tactic| fail_if_success skip) => `(tactic| with_reducible refine (rdV_o (by with_unfolding_all rfl) ?_))
local macro_rules
  | `(tactic| fail_if_success skip) => `(tactic| with_reducible refine (rdV_v (by with_unfolding_all rfl) ?_))
local macro_rules
  | `(tactic| fail_if_success skip) => `(tactic| with_reducible refine To_bindc ?_)
local macro_rules
  | `(tactic| fail_if_success skip) => `(tactic| with_reducible refine To_cMupkY (by with_unfolding_all rfl) ?_)
local macro_rules
  | `(tactic| fail_if_success skip) => `(tactic| with_reducible refine muFin_i (by with_unfolding_all rfl) (by with_unfolding_all rfl) ?_)
local macro_rules
  | `(tactic| fail_if_success skip) => `(tactic| with_reducible refine stFin_i (by with_unfolding_all rfl) (by with_unfolding_all rfl) ?_)
local macro_rules
  | `(tactic| fail_if_success skip) => `(tactic| with_reducible refine isF_and ?_)
local macro_rules
  | `(tactic| fail_if_success skip) => `(tactic| with_reducible refine Step.go ?_)
local macro_rules
  | `(tactic| bv_omega) => `(tactic| repeat (fail_if_success skip))
/-! ### the law's look at what was found -/
theorem right_none {kn : List R3} (o : KinOk kn) (hr : Ranked kn) {g : Gs} : Gets F__law_right [kinD kn, .non] g (.bl true) false := by
  intro K k
  unfold F__law_right m__law_right
  refine To_runDi rfl ?_
  bv_omega
  refine To_cIfS.mpr ?_
  bv_omega
  refine peeled_ok o fun b l h1 h2 => ?_
  rw [h1 hr]
  bv_omega
  exact k _
/-- a comprehension over a box -/
theorem compL_mapG {P : D → Bool → Lc → Gs → Prop} {l : Lc} {g : Gs} {gd : Gd} {ds0 ds acc : List D} {t : Tg} {own : List Nat} {elt : Sm} (hg : gdOk gd ds0 g = true) (F : D → D) (h : ∀ d ∈ ds, OTo (t.put d l g) fun l1 => (elt l1 g).To fun y _ l2 g2 => y = F d ∧ wipeL l2 own = l ∧ g2 = g)
    (hl : acc.length + ds.length ≤ sizeLine) (fin : P (.lst (acc ++ ds.map F)) true l g) : (compL gd ds0 t own none elt ds acc l g).To P := by
  induction ds generalizing acc with
  | nil =>
    have fin : P (.lst (acc ++ [])) true l g := fin
    rw [List.append_nil] at fin
    unfold compL
    rw [if_pos hg]
    exact To_ok.mpr fin
  | cons d r ih =>
    have h1 := h d List.mem_cons_self
    unfold compL
    rw [if_pos hg]
    cases hp : t.put d l g with
    | none => rw [hp] at h1; exact h1.elim
    | some l1 =>
      rw [hp] at h1
      have h1 : (elt l1 g).To fun y _ l2 g2 => y = F d ∧ wipeL l2 own = l ∧ g2 = g := h1
      simp only [To_bind]
      refine h1.imp fun y _ l2 g2 ⟨e1, e2, e3⟩ => ?_
      subst e1 e3
      rw [e2, if_pos (by simp only [List.length_cons] at hl; omega)]
      refine ih (fun d hd => h d (List.mem_cons_of_mem _ hd)) (by simp only [List.length_cons, List.length_append, List.length_nil] at hl ⊢; omega) ?_
      simpa using fin
theorem foldU_eq : ∀ {xs acc : List Str}, (acc ++ xs).Nodup → xs.foldl addU acc = acc ++ xs
  | [], acc, _ => by simp
  | x :: xs, acc, h => by
    have hx : x ∉ acc := fun hm => by
      rw [List.nodup_append] at h
      exact h.2.2 x hm x List.mem_cons_self rfl
    rw [List.foldl_cons, show addU acc x = acc ++ [x] from by unfold addU; rw [if_neg hx], foldU_eq (by rw [List.append_assoc]; exact h), List.append_assoc]
    rfl
theorem dLenSet_l {ws : List Str} (h : ws.length < 4000) (nd : ws.Nodup) : dLenSet (.lst (ws.map .str)) = .sh (.int ws.length) := by
  unfold dLenSet
  simp only [seqOf, strsOf_map']
  rw [if_pos h, show uniqS ws = ws from foldU_eq (acc := []) (by simpa using nd)]
theorem items_ref {g : Gs} {n : Nat} {ds : List D} (e : g[n]? = some (.box (.lst ds))) : itemsOf (.ref n) g = some (ds, some (n, ds)) := by
  simp only [itemsOf, e, boxD]
theorem gd_ref {g : Gs} {n : Nat} {ds es : List D} (e : g[n]? = some (.box (.lst ds))) : gdOk (some (n, ds)) es g = true := by
  simp [gdOk, e, boxD]
theorem zp_ref {l : Lc} {g : Gs} {n : Nat} {ds es : List D} (e : g[n]? = some (.box (.lst ds))) : zp2 (.ref n) (.lst es) l g = .ok (zipD ds es) (some (n, ds)) l g := by
  simp only [zp2, e, boxD]
theorem zip_next {zs : List Str} {d : D} (h : d ∈ zipD (zs.map .str) ((zs.map .str).drop 1)) : ∃ i a b, zs[i]? = some a ∧ zs[i + 1]? = some b ∧ d = .tup [.str a, .str b] := by
  unfold zipD at h
  obtain ⟨p, hp, rfl⟩ := List.mem_map.mp h
  obtain ⟨i, hi, e⟩ := List.mem_iff_getElem.mp hp
  rw [List.length_zip, List.length_drop, List.length_map] at hi
  rw [List.getElem_zip] at e
  refine ⟨i, zs[i]'(by omega), zs[i + 1]'(by omega), List.getElem?_eq_getElem _, List.getElem?_eq_getElem _, ?_⟩
  rw [← e]
  simp only [List.getElem_drop, List.getElem_map]
  have : 1 + i = i + 1 := Nat.add_comm _ _
  simp only [this]
theorem ring_split {kn : List R3} {zs : List Str} (hz : RingOk kn zs) (h4 : 4 ≤ zs.length) : ∃ z ys, zs = z :: ys ++ [z] := by
  rcases List.eq_nil_or_concat zs with h | ⟨xs, z, h⟩
  · rw [h] at h4; simp at h4
  · rw [List.concat_eq_append] at h
    subst h
    have e := hz.ends
    rw [List.getLast?_concat] at e
    cases xs with
    | nil => simp at h4
    | cons x ys =>
      have : x = z := by simpa using e
      subst this
      exact ⟨x, ys, rfl⟩
theorem right_ring {kn : List R3} (o : KinOk kn) (as : ∀ a b, Over kn a b → a ≠ b ∧ ¬ Over kn b a) {zs : List Str} (hz : RingOk kn zs) (hzl : zs.length ≤ 1000) {g : Gs} {n : Nat} (e : g[n]? = some (.box (.lst (zs.map .str)))) : Gets F__law_right [kinD kn, .ref n] g (.bl true) false := by
  intro K k
  have h4 := ring_len hz as
  have hS : 100000 ≤ sizeLine := by decide
  unfold F__law_right m__law_right
  refine To_runDi rfl ?_
  bv_omega
  refine To_cIfS.mpr ?_
  bv_omega
  refine peeled_ok o fun b l h1 h2 => ?_
  rw [h2 zs hz]
  bv_omega
  refine To_cIfS.mpr ?_
  bv_omega
  have ec : (D.ref n).cont g = .lst (zs.map .str) := D.cont_ref_box e
  rw [ec]
  refine PTo_s (d := .bl true) rfl ?_
  bv_omega
  rw [ec]
  bv_omega
  have hl4 : ((zs.map D.str).length : Int) = (zs.length : Nat) := by simp
  refine onB_dec (fun hc => absurd hc (by omega)) (fun hc => ?_)
  obtain ⟨z, ys, hzs⟩ := ring_split hz h4
  have i0 : dIx (.lst (zs.map .str)) (.int 0) = .sh (.str z) := by rw [hzs, dIx_l, show ((0 : Int)) = ((0 : Nat) : Int) from rfl, atI_nat (v := D.str z) rfl]
  have il : dIx (.lst (zs.map .str)) (.int (-1)) = .sh (.str z) := by rw [hzs]; exact ix_last
  bv_omega
  rw [ec]
  refine PTo_s i0 ?_
  bv_omega
  rw [ec]
  refine PTo_s il ?_
  bv_omega
  refine onB_ndec (fun hc => absurd rfl hc) (fun hc => ?_)
  bv_omega
  refine To_cIfS.mpr ?_
  bv_omega
  refine OTo_i (items_ref e) ?_
  refine compL_mapG (gd_ref e) (fun _ => .bl true) ?_ (by simp only [List.length_nil, List.length_map]; omega) ?_
  · intro d hd
    obtain ⟨y, hy, rfl⟩ := List.mem_map.mp hd
    bv_omega
    exact ⟨rfl, rfl, rfl⟩
  bv_omega
  refine PTo_s (dAll_map (fun _ => true) _) ?_
  bv_omega
  rw [show (List.map D.str zs, (some (n, List.map D.str zs) : Gd)).fst.all (fun _ => true) = true from List.all_eq_true.mpr fun _ _ => rfl]
  bv_omega
  rw [ec]
  bv_omega
  have hdr : (zs.drop 1).map D.str = (zs.map D.str).drop 1 := List.map_drop ..
  refine PTo_s (d := .int ((zs.drop 1).length : Nat)) (show dLenSet (.lst (cutD (zs.map D.str) (some 1) none)) = _ by
    rw [cut1, ← hdr]
    exact dLenSet_l (by rw [List.length_drop]; omega) hz.nd) ?_
  bv_omega
  rw [ec]
  bv_omega
  refine onB_ndec (fun hc => absurd ?_ hc) (fun hc => ?_)
  · rw [List.length_drop]; omega
  bv_omega
  refine To_iZip2.mpr ?_
  bv_omega
  rw [ec]
  bv_omega
  rw [zp_ref e, cut1]
  refine ITo_ok.mpr ?_
  have hkn := rows_nice fun r hr => o.word_ok hr
  have hzl' : (zipD (zs.map D.str) ((zs.map D.str).drop 1)).length ≤ 1000 := by rw [zipD_length, List.length_map]; omega
  refine compL_mapG (gd_ref e) (fun _ => .bl true) ?_ (by simp only [List.length_nil]; omega) ?_
  · intro d hd
    obtain ⟨i, a, b, ea, eb, rfl⟩ := zip_next hd
    have hov := hz.st i a b ea eb
    bv_omega
    refine PTo_s (d := .bl true) (congrArg PR.bl (show anyEq (rD (a, b, "over")) (kn.map rD) = some true from ?_)) ?_
    · rw [anyEq_nice (rD_nice (o.word_ok hov)) hkn.1 (by show (1 : Nat) ≤ 64; decide) (by omega)]
      exact congrArg some (decide_eq_true (List.mem_map.mpr ⟨_, hov, rfl⟩))
    exact ⟨rfl, rfl, rfl⟩
  bv_omega
  refine PTo_s (dAll_map (fun _ => true) _) ?_
  rw [show (zipD (zs.map D.str) ((zs.map D.str).drop 1)).all (fun _ => true) = true from List.all_eq_true.mpr fun _ _ => rfl]
  exact k _
end Y
namespace Y
variable [TabC]
open PySem L2 TL
local macro_rules
  | `(tactic| fail_if_success skip) => `(tactic| with_reducible refine And.intro (Eq.refl true) ?_)
local macro_rules
  | `(tactic| fail_if_success skip) => `(tactic| with_reducible refine onB_ff (by with_unfolding_all rfl) ?_)
local macro_rules
  | `(tactic| fail_if_success skip) => `(tactic| with_reducible refine onB_tt (by with_unfolding_all rfl) ?_)
local macro_rules
  | `(tactic| fail_if_success skip) => `(tactic| with_reducible refine onBl_b (by with_unfolding_all rfl) ?_)
local macro_rules
  | `(tactic| fail_if_success skip) => `(tactic| with_reducible refine onS_i (by with_unfolding_all rfl) ?_)
local macro_rules
  | `(tactic| fail_if_success skip) => `(tactic| with_reducible refine onI_i (by with_unfolding_all rfl) ?_)
local macro_rules
  | `(tactic| fail_if_success skip) => `(tactic| with_reducible refine PTo_ic (by with_unfolding_all rfl) ?_)
local macro_rules
  | `(tactic| fail_if_success skip) => `(tactic| with_reducible refine PTo_iY (by with_unfolding_all rfl) (by first | decide | assumption | omega) ?_)
local macro_rules
  | `(tactic| fail_if_success skip) => `(tactic| with_reducible refine PTo_n (by with_unfolding_all rfl) ?_)
local macro_rules
  | `(tactic| fail_if_success skip) => `(tactic| with_reducible refine PTo_s (by with_unfolding_all rfl) ?_)
local macro_rules
  | `(tactic| fail_if_success skip) => `(tactic| with_reducible refine PTo_s ix1f ?_)
local macro_rules
  | `(tactic| fail_if_success skip) => `(tactic| with_reducible refine PTo_s ix0f ?_)
local macro_rules
  | `(tactic| fail_if_success skip) => `(tactic| with_reducible refine PTo_s ix2t ?_)
local macro_rules
  | `(tactic| fail_if_success skip) => `(tactic| with_reducible refine PTo_s ix1l ?_)
local macro_rules
  | `(tactic| fail_if_success skip) => `(tactic| with_reducible refine PTo_s ix0l ?_)
local macro_rules
  | `(tactic| fail_if_success skip) => `(tactic| with_reducible refine PTo_s ix1t ?_)
local macro_rules
  | `(tactic| fail_if_success skip) => `(tactic| with_reducible refine PTo_s ix0t ?_)
local macro_rules
  | `(tactic| fail_if_success skip) => `(tactic| with_reducible refine OTo_i (by with_unfolding_all rfl) ?_)
local macro_rules
  | `(tactic| fail_if_success skip) => `(tactic| with_reducible refine STo_iteY (by first | decide | (simp only [List.length_cons, List.length_nil, List.length_append, List.length_map]; decide) | assumption | omega) ?_)
local macro_rules
  | `(tactic| fail_if_success skip) => `(tactic| with_reducible refine To_iteA ?_)
local macro_rules
  | `(tactic| fail_if_success skip) => `(tactic| with_reducible refine To_iteY (by first | decide | (simp only [List.length_cons, List.length_nil, List.length_append, List.length_map]; decide) | assumption | omega) ?_)
local macro_rules
  | `(tactic| fail_if_success skip) => `(tactic| with_reducible refine (rtV_o (by with_unfolding_all rfl) ?_))
local macro_rules
  | `(tactic| fail_if_success skip) => `(tactic| with_reducible refine (rtV_v (by with_unfolding_all rfl) ?_))
local macro_rules
  | `(tactic| fail_if_success skip) => `(tactic| with_reducible refine (rdV_o (by with_unfolding_all rfl) ?_))
local macro_rules
  | `(tactic| fail_if_success skip) => `(tactic| with_reducible refine (rdV_v (by with_unfolding_all rfl) ?_))
local macro_rules
  | `(tactic| fail_if_success skip) => `(tactic| with_reducible refine To_bindc ?_)
local macro_rules
  | `(tactic| fail_if_success skip) => `(tactic| with_reducible refine To_cMupkY (by with_unfolding_all rfl) ?_)
local macro_rules
  | `(tactic| fail_if_success skip) => `(tactic| with_reducible refine muFin_i (by with_unfolding_all rfl) (by with_unfolding_all rfl) ?_)
local macro_rules
  | `(tactic| fail_if_success skip) => `(tactic| with_reducible refine stFin_i (by with_unfolding_all rfl) (by with_unfolding_all rfl) ?_)
local macro_rules
  | `(tactic| fail_if_success skip) => `(tactic| with_reducible refine isF_and ?_)
local macro_rules
  | `(tactic| fail_if_success skip) => `(tactic| with_reducible refine Step.go ?_)
local macro_rules
  | `(tactic| bv_omega) => `(tactic| repeat (fail_if_success skip))
theorem leD_r (a b : R3) : leD (rD a) (rD b) = (fun a b : R3 => leD (rD a) (rD b)) a b := rfl
def sortR (rs : List R3) : List R3 := rs.mergeSort fun a b => leD (rD a) (rD b)
theorem sortD_r (rs : List R3) : sortD (rs.map rD) = (sortR rs).map rD := by
  unfold sortD sortR
  exact (List.map_mergeSort (r := fun a b : R3 => leD (rD a) (rD b)) (f := rD) fun a _ b _ => rfl).symm
theorem sortR_mem {rs : List R3} {r : R3} : r ∈ sortR rs ↔ r ∈ rs := by
  unfold sortR
  exact List.mem_mergeSort
theorem srtOk_r (rs : List R3) : srtOk (rs.map rD) = true := by
  unfold srtOk
  simp only [Bool.and_eq_true, Bool.or_eq_true, List.all_eq_true]
  refine ⟨⟨?_, ?_⟩, .inl ?_⟩
  · intro d hd; obtain ⟨z, _, rfl⟩ := List.mem_map.mp hd; simp [D.py, D.pyL, pyD, PyData.depth, PyData.depthAll]
  · intro d hd e he; obtain ⟨z, _, rfl⟩ := List.mem_map.mp hd; obtain ⟨y, _, rfl⟩ := List.mem_map.mp he
    simp [pyD, D.py, D.pyL, PySem.W.alike, PySem.W.alikeAll]
  · intro d hd; obtain ⟨z, _, rfl⟩ := List.mem_map.mp hd; rfl
theorem kin_ok {zs : List Str} {rs : List R3} (hz : ∀ z ∈ zs, nmS z = true) (o : RowsOk zs rs) (hl : rs.length ≤ 60) : KinOk (sortR rs) ∧ ∀ a b, Over (sortR rs) a b → a ≠ b ∧ ¬ Over (sortR rs) b a :=
  ⟨⟨fun r hr => hz _ (o.one r (sortR_mem.mp hr)), fun r hr => hz _ (o.two r (sortR_mem.mp hr)), fun r hr => o.word r (sortR_mem.mp hr), by unfold sortR; rw [List.length_mergeSort]; omega⟩,
    fun a b h => ⟨(o.asy a b (sortR_mem.mp h)).1, fun h' => (o.asy a b (sortR_mem.mp h)).2 (sortR_mem.mp h')⟩⟩
theorem ring_le {kn : List R3} (o : KinOk kn) {zs : List Str} (hz : RingOk kn zs) : zs.length ≤ 1000 := by
  have hkl := o.len
  have h8 : (hsS kn).length ≤ 800 := by
    unfold hsS sortS
    rw [List.length_mergeSort]
    refine Nat.le_trans uniqS_len ?_
    rw [List.length_append, List.length_map, List.length_map]; omega
  have hs : ∀ z ∈ zs.drop 1, z ∈ hsS kn := fun z hm => by
    obtain ⟨i, hi, e⟩ := List.mem_iff_getElem.mp hm
    rw [List.length_drop] at hi
    rw [List.getElem_drop] at e
    have h1 : zs[i]? = some (zs[i]'(by omega)) := List.getElem?_eq_getElem _
    have h2 : zs[i + 1]? = some z := by
      rw [List.getElem?_eq_getElem (by omega), ← e]
      simp only [show 1 + i = i + 1 from Nat.add_comm _ _]
    exact hsS_mem.mpr ⟨_, hz.st i _ z h1 h2, .inr rfl⟩
  have := nodup_sub_len hz.nd hs
  rw [List.length_drop] at this
  omega
theorem set_last {α : Type} {xs : List α} {a b : α} : (xs ++ [a]).set xs.length b = xs ++ [b] := by
  rw [List.set_append_right _ _ (Nat.le_refl _), Nat.sub_self]; rfl
theorem mu_box0 {P : D → Bool → Lc → Gs → Prop} {l : Lc} {g : Gs} {f : Mu} {j n : Nat} {ds : List D} {d r : D} (hs : slotP l j = some (.bx n)) (e : g[n]? = some (.box (.lst ds))) (h : f (.lst ds) [] = some (d, r)) (p : P r false l (g.set n (.box d))) : (cMu isLst f (.pk j) [] l g).To P := by
  refine To_cMupkY (by simp only [hs, isK, getP, e, boxD]; rfl) ?_
  show (muFin f (slotP l j) [] l g).To P
  simp only [hs, muFin, getP, e, boxD, h]
  exact To_ok.mpr p
theorem mu_box1 {P : D → Bool → Lc → Gs → Prop} {l : Lc} {g : Gs} {f : Mu} {j n : Nat} {ds : List D} {x d r : D} (hs : slotP l j = some (.bx n)) (e : g[n]? = some (.box (.lst ds))) (h : f (.lst ds) [x] = some (d, r)) (p : P r false l (g.set n (.box d))) : (cMu isLst f (.pk j) [cC x] l g).To P := by
  refine To_cMupkY (by simp only [hs, isK, getP, e, boxD]; rfl) ?_
  show (muFin f (slotP l j) [x] l g).To P
  simp only [hs, muFin, getP, e, boxD, h]
  exact To_ok.mpr p
theorem law_true (ns : List Int) (h : ns.length ≤ 63) : ∃ f l g, fnS tab means 4 11 [.clst (ns.map D.int)] [] = .ok (.bl true) f l g := by
  suffices H : (fnS tab means 4 11 [.clst (ns.map D.int)] []).To fun d _ _ _ => d = .bl true by
    obtain ⟨d, f, l, g, e, rfl⟩ := H.eq
    exact ⟨f, l, g, e⟩
  have hS : 100000 ≤ sizeLine := by decide
  rw [show fnS tab means 4 11 = F_law from fx_law 0]
  unfold F_law
  unfold m_law
  refine To_runDi rfl ?_
  bv_omega
  have hl : ((ns.map D.int).length : Int) ≤ 63 := by simp; omega
  refine rg_and (by repeat' split; all_goals omega) (by repeat' split; all_goals omega) ?_
  obtain ⟨jm, hjm, hj2⟩ : ∃ jm : Int, (if (if ((ns.map D.int).length : Int) < 8 then ((ns.map D.int).length : Int) else 8) > 2 then (if ((ns.map D.int).length : Int) < 8 then ((ns.map D.int).length : Int) else 8) else 2) = jm ∧ jm ≤ 8 := ⟨_, rfl, by repeat' split; all_goals omega⟩
  rw [hjm]
  refine forL_rule (fun rest l g => (∀ d ∈ rest, ∃ k : Int, d = .int k ∧ 0 ≤ k ∧ k < jm) ∧ ∃ x1 x2 x3 x4 x5 x6, l = [some (.val (.clst (ns.map D.int))), x1, x2, x3, x4, x5, x6]) ⟨rg_in, _, _, _, _, _, _, rfl⟩ ?_ ?_
  · rintro d r l g ⟨hr, x1, x2, x3, x4, x5, x6, rfl⟩
    obtain ⟨k, rfl, k0, k1⟩ := hr d List.mem_cons_self
    have hr' := fun d hd => hr d (List.mem_cons_of_mem _ hd)
    bv_omega
    refine hand_ok k0 (by omega) fun _ g1 H1 => ?_
    bv_omega
    refine pickOk.go (n := 2 ^ 38) (H1.le (by decide)) [.int 3, .int 4, .int 5, .int 6, .int 8, .int 12] rfl (by simp) (by decide) fun m _ g2 hm H2 gl2 => ?_
    obtain ⟨m, rfl, m3, m12⟩ : ∃ j : Int, m = .int j ∧ 3 ≤ j ∧ j ≤ 12 := by
      simp only [List.mem_cons, List.not_mem_nil, or_false] at hm
      rcases hm with rfl | rfl | rfl | rfl | rfl | rfl <;> exact ⟨_, rfl, by omega, by omega⟩
    bv_omega
    refine names_ok2 takeOk pickOk (n := 2 ^ 37) (H2.le (by decide)) (by omega) (by omega) fun zs _ g3 hz hor hnd hzl H3 gl3 => ?_
    bv_omega
    refine pickOk.go (n := 2 ^ 36) (H3.le (by decide)) [.int 0, .int 2, .int 5, .int 9, .int 20] rfl (by simp) (by decide) fun q _ g4 hq H4 gl4 => ?_
    obtain ⟨q, rfl, q0, q20⟩ : ∃ j : Int, q = .int j ∧ 0 ≤ j ∧ j ≤ 20 := by
      simp only [List.mem_cons, List.not_mem_nil, or_false] at hq
      rcases hq with rfl | rfl | rfl | rfl | rfl <;> exact ⟨_, rfl, by omega, by omega⟩
    bv_omega
    refine rows_ok pickOk (n := 2 ^ 35) (H4.le (by decide)) (by rintro rfl; simp at hzl; omega) (by omega) q0 (by omega) fun rs _ g5 o hrl H5 gl5 => ?_
    bv_omega
    refine To_cIfS.mpr ?_
    bv_omega
    refine takeOk.go (n := 2 ^ 34) (H5.le (by decide)) (by decide) (by decide) fun w _ g6 w0 w1 H6 gl6 => ?_
    bv_omega
    refine onB_dec (fun hu => ?_) (fun hu => ?_)
    · bv_omega
      refine ringed_ok takeOk pickOk (n := 2 ^ 33) (H6.le (by decide)) hnd (by omega) (by omega) fun rs' _ g7 o' hrl' H7 gl7 => ?_
      bv_omega
      refine ⟨srtOk_r rs', ?_⟩
      rw [sortD_r]
      obtain ⟨ok, asy⟩ := kin_ok hz o' hrl'
      generalize sortR rs' = kn at ok asy ⊢
      refine PTo_nw.mpr ?_
      bv_omega
      refine elder_ok ok (fun _ hrk => ?_) (fun z2 _ hz2 => ?_)
      · bv_omega
        refine To_cIfS.mpr ?_
        bv_omega
        refine (right_none ok hrk).go fun _ => ?_
        bv_omega
        refine To_cIfS.mpr ?_
        bv_omega
        exact ⟨hr', _, _, _, _, _, _, rfl⟩
      · bv_omega
        refine To_cIfS.mpr ?_
        bv_omega
        refine (right_ring ok asy hz2 (ring_le ok hz2) (List.getElem?_concat_length ..)).go fun _ => ?_
        bv_omega
        refine To_cIfS.mpr ?_
        bv_omega
        rw [D.cont_ref_box (List.getElem?_concat_length ..)]
        refine PTo_s (d := .bl true) rfl ?_
        bv_omega
        have hz2l := ring_le ok hz2
        refine mu_box0 rfl (List.getElem?_concat_length ..) (d := .lst (z2.map D.str).reverse) (r := .non) rfl ?_
        rw [set_last]
        bv_omega
        refine mu_box1 rfl (List.getElem?_concat_length ..) (muApp_ok (by rw [List.length_reverse, List.length_map]; omega)) ?_
        rw [set_last]
        bv_omega
        refine To_cIfS.mpr ?_
        bv_omega
        refine elder_ok ok (fun _ hrk => absurd hrk (ring_rank hz2)) (fun z3 _ hz3 => ?_)
        bv_omega
        refine (right_ring ok asy hz3 (ring_le ok hz3) (List.getElem?_concat_length ..)).go fun _ => ?_
        bv_omega
        exact ⟨hr', _, _, _, _, _, _, rfl⟩
    · bv_omega
      refine ⟨srtOk_r rs, ?_⟩
      rw [sortD_r]
      obtain ⟨ok, asy⟩ := kin_ok hz o (by omega)
      generalize sortR rs = kn at ok asy ⊢
      refine PTo_nw.mpr ?_
      bv_omega
      refine elder_ok ok (fun _ hrk => ?_) (fun z2 _ hz2 => ?_)
      · bv_omega
        refine To_cIfS.mpr ?_
        bv_omega
        refine (right_none ok hrk).go fun _ => ?_
        bv_omega
        refine To_cIfS.mpr ?_
        bv_omega
        exact ⟨hr', _, _, _, _, _, _, rfl⟩
      · bv_omega
        refine To_cIfS.mpr ?_
        bv_omega
        refine (right_ring ok asy hz2 (ring_le ok hz2) (List.getElem?_concat_length ..)).go fun _ => ?_
        bv_omega
        refine To_cIfS.mpr ?_
        bv_omega
        rw [D.cont_ref_box (List.getElem?_concat_length ..)]
        refine PTo_s (d := .bl true) rfl ?_
        bv_omega
        have hz2l := ring_le ok hz2
        refine mu_box0 rfl (List.getElem?_concat_length ..) (d := .lst (z2.map D.str).reverse) (r := .non) rfl ?_
        rw [set_last]
        bv_omega
        refine mu_box1 rfl (List.getElem?_concat_length ..) (muApp_ok (by rw [List.length_reverse, List.length_map]; omega)) ?_
        rw [set_last]
        bv_omega
        refine To_cIfS.mpr ?_
        bv_omega
        refine elder_ok ok (fun _ hrk => absurd hrk (ring_rank hz2)) (fun z3 _ hz3 => ?_)
        bv_omega
        refine (right_ring ok asy hz3 (ring_le ok hz3) (List.getElem?_concat_length ..)).go fun _ => ?_
        bv_omega
        exact ⟨hr', _, _, _, _, _, _, rfl⟩
  · rintro l g ⟨_, x1, x2, x3, x4, x5, x6, rfl⟩
    bv_omega
    rfl
end Y
open PySem PySem.W PyProof.Rows in
set_option maxRecDepth 100000 in
set_option maxHeartbeats 0 in
theorem PySem.Challenge.cw_restways_k63_rings_of_elders_holds : PySem.Challenge.rw_restways_k63_rings_of_elders.Holds := by
  w_on; o_law; k_head; (case hw => w_witness2)
  k_fill
  refine Y.walk_tabs (l := PySem.Challenge.rw_restways_k63_rings_of_elders) (n := 63) (k := 16) (x := "_law_script") (sp := fun K => @Y.spD ⟨Y.tabsOf K []⟩ K (Y.fnS Y.tab Y.means 4 11)) [] rfl (by decide) rfl ⟨rfl, by decide, by decide⟩ (fun w h Y => PySem.W.kIn_of Y) (by first | rfl | kernel_rfl | decide +kernel) (fun P => by first | rfl | k_is | kernel_rfl) ?F (fun K H a ns hl hT hS => ?S)
  case S =>
    obtain ⟨f, l, g, e⟩ := @Y.law_true ⟨[]⟩ ns hl
    exact @Y.sp_end ⟨Y.tabsOf K []⟩ K _ H a ns f l g hT hS e
  case F =>
    intro w mg fa h KX G hmg
    refine @Y.mk_lift ⟨Y.tabsOf _ []⟩ _ _ _ _ _ _ _ _ Y.tab _ (fun base KB GB hTB => Y.lamsK_of KB GB (by first | rfl | kernel_rfl) (by first | rfl | k_is | kernel_rfl) hTB) ?_
    refine' Y.all_mk (TI := ⟨Y.tabsOf _ []⟩) KX G hmg ?a0 ?l0 ?c0 ?k0 ?a1 ?l1 ?c1 ?k1 ?a2 ?l2 ?c2 ?k2 ?a3 ?l3 ?c3 ?k3 ?a4 ?l4 ?c4 ?k4 ?a5 ?l5 ?c5 ?k5 ?a6 ?l6 ?c6 ?k6 ?a7 ?l7 ?c7 ?k7 ?a8 ?l8 ?c8 ?k8 ?a9 ?l9 ?c9 ?k9 ?a10 ?l10 ?c10 ?k10 ?a11 ?l11 ?c11 ?k11 ?z0 ?z1 ?z2 ?z3 ?z4 ?z5 ?z6 ?z7 ?z8 ?z9 ?z10 ?z11 ?z12 ?z13
    (case a0 => k_is)
    (case l0 => k_is)
    (case c0 => k_is)
    (case k0 => k_is)
    (case a1 => k_is)
    (case l1 => k_is)
    (case c1 => k_is)
    (case k1 => k_is)
    (case a2 => k_is)
    (case l2 => k_is)
    (case c2 => k_is)
    (case k2 => k_is)
    (case a3 => k_is)
    (case l3 => k_is)
    (case c3 => k_is)
    (case k3 => k_is)
    (case a4 => k_is)
    (case l4 => k_is)
    (case c4 => k_is)
    (case k4 => k_is)
    (case a5 => k_is)
    (case l5 => k_is)
    (case c5 => k_is)
    (case k5 => k_is)
    (case a6 => k_is)
    (case l6 => k_is)
    (case c6 => k_is)
    (case k6 => k_is)
    (case a7 => k_is)
    (case l7 => k_is)
    (case c7 => k_is)
    (case k7 => k_is)
    (case a8 => k_is)
    (case l8 => k_is)
    (case c8 => k_is)
    (case k8 => k_is)
    (case a9 => k_is)
    (case l9 => k_is)
    (case c9 => k_is)
    (case k9 => k_is)
    (case a10 => k_is)
    (case l10 => k_is)
    (case c10 => k_is)
    (case k10 => k_is)
    (case a11 => k_is)
    (case l11 => k_is)
    (case c11 => k_is)
    (case k11 => k_is)
    (case z0 => k_is)
    (case z1 => k_is)
    (case z2 => k_is)
    (case z3 => k_is)
    (case z4 => k_is)
    (case z5 => k_is)
    (case z6 => k_is)
    (case z7 => k_is)
    (case z8 => k_is)
    (case z9 => k_is)
    (case z10 => k_is)
    (case z11 => k_is)
    (case z12 => k_is)
    (case z13 => k_is)
